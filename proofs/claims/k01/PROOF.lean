import PyProof.Rows.All
import Wide.All
import OpenK.AllK
import Wide.FinOn
import HandS.ForMost
import HandS.Defaults
import HandS.IsInst
import HandS.More
import HandS.Conv
import HandS.SortKw
import HandS.Strs
import HandS.Wide
import HandS.RaiseMore
import HandS.Walk
import PySem.Challenge.RW_sourceback_k01_names_of_any_value
set_option Elab.async false
set_option linter.all false
set_option maxRecDepth 100000
/-! Layer G: the promises of defs where no repr is under way (A.guards = some []): what repr of lists, tuples and dicts wants. -/
namespace GL
open PySem PySem.Spec PyProof.Rows L2

/-- a def keeps its promise, called where no repr is under way -/
structure FnG (P : Program) (w : World) (K : PySem.W.Frag) (mg : Str → Option Value) (base : Heap) (CX : CXT) (k : Nat) (f : Addr) (fd : FuncData) (ps : List Str) (sp : Sp) : Prop where
  len : ∀ vs H Q E, sp vs H Q E → vs.length = ps.length
  run : ∀ (A : Around) (outer : List Env) (s : Shared) (H : Hp) (args : Args) (us : List Value) (vs : List V) (Q : VK) (E : XK), Room k A → A.guards = some [] →
    Env0 P w K mg base A outer s H → BindsTo s fd args (ps.zip us) → Vals vs us → sp vs H Q E → codeAny (model P w) A (.call (.ref f) args) (CR CX outer P w H s Q E) s
section
variable {P : Program} {w : World} {K : PySem.W.Frag} {mg : Str → Option Value} {base : Heap} {CX : CXT} {j k : Nat} {f : Addr} {fd : FuncData} {ps : List Str} {sp sp' : Sp}
theorem FnG.of (F : FnOk P w K mg base CX k f fd ps sp) : FnG P w K mg base CX k f fd ps sp := ⟨F.len, fun A o s H a us vs Q E r _ => F.run A o s H a us vs Q E r⟩
theorem FnG.mono (F : FnG P w K mg base CX j f fd ps sp) (h : j ≤ k) : FnG P w K mg base CX k f fd ps sp := ⟨F.len, fun A o s H a us vs Q E r => F.run A o s H a us vs Q E (r.mono h)⟩
theorem FnG.imp (F : FnG P w K mg base CX k f fd ps sp) (h : ∀ vs H Q E, sp' vs H Q E → sp vs H Q E) : FnG P w K mg base CX k f fd ps sp' :=
  ⟨fun vs H Q E q => F.len vs H Q E (h _ _ _ _ q), fun A o s H a us vs Q E r g e0 hb hv hs => F.run A o s H a us vs Q E r g e0 hb hv (h _ _ _ _ hs)⟩
end

section
variable {X : Cx} {CX : CXT} {k : Nat} {f : Addr} {fd : FuncData} {ps ks : List Str} {sp : Sp} {dvs : List V} {ds : List Value} {E : XK} {x : Str} {p pos : Pos} {e : Expr} {es : List Expr} {kws : List Keyword} {t tk : TA}
  {g : List Value → List Value → List Value} {gV : List V → List V → List V}
/-- what stands behind a call that ran -/
theorem call_end {pins : List (Addr × Obj)} {σ : L2.St} {H : Hp} {s : Shared} {Q : VK} (hx : Passes CX X E) (I : Inv X pins σ H s) {args : Args} (h : codeAny (model X.prog X.w) X.A (.call (.ref f) args) (CR CX X.stack X.prog X.w H s Q E) s) :
    wpAny (model X.prog X.w) X.A (call (.ref f) args.pos args.kw) (EP X pins σ Q) X.xe s :=
  wpAny_call (codeAny_mono h fun r s' hq => match r, hq with
    | .error e, hq => hx pins σ H s e s' I hq
    | .ok (.ret _), hq => I.after hq
    | .ok .next, hq => hq.elim
    | .ok .brk, hq => hq.elim
    | .ok .cont, hq => hq.elim)
theorem run_g {pins : List (Addr × Obj)} {σ : L2.St} {H : Hp} {s : Shared} {Q : VK} {us : List Value} {vs : List V} (F : FnG X.prog X.w X.K X.mg X.base CX k f fd ps sp) (hr : Room k X.A) (hG : X.A.guards = some []) (hb : Binds X.K fd ps ds) (hd : Vals dvs ds)
    (hx : Passes CX X E) (I : Inv X pins σ H s) (r : Vals vs us) (h : sp (vs ++ dvs) H Q E) : wpAny (model X.prog X.w) X.A (call (.ref f) us) (EP X pins σ Q) X.xe s := by
  have r2 := r.append hd
  refine call_end (args := ⟨us, []⟩) hx I (F.run X.A X.stack s H ⟨us, []⟩ (us ++ ds) (vs ++ dvs) Q E hr hG I.env0 (hb s us I.kIn ?_) r2 h)
  exact r2.length.symm.trans (F.len _ _ _ _ h)
theorem run_gk {pins : List (Addr × Obj)} {σ : L2.St} {H : Hp} {s : Shared} {Q : VK} {us ws : List Value} {vs zs : List V} (F : FnG X.prog X.w X.K X.mg X.base CX k f fd ps sp) (hr : Room k X.A) (hG : X.A.guards = some []) (hb : KBinds X.K fd ps ks g gV)
    (hx : Passes CX X E) (I : Inv X pins σ H s) (r : Vals vs us) (rz : Vals zs ws) (h : sp (gV vs zs) H Q E) : wpAny (model X.prog X.w) X.A (call (.ref f) us (ks.zip ws)) (EP X pins σ Q) X.xe s := by
  have r2 := hb.rel r rz
  refine call_end (args := ⟨us, ks.zip ws⟩) hx I (F.run X.A X.stack s H ⟨us, ks.zip ws⟩ (g us ws) (gV vs zs) Q E hr hG I.env0 (hb.to s us ws I.kIn ?_) r2 h)
  exact r2.length.symm.trans (F.len _ _ _ _ h)
/-- f(e, ..) -/
theorem pe_callG (F : FnG X.prog X.w X.K X.mg X.base CX k f fd ps sp) (hr : Room k X.A) (hG : X.A.guards = some []) (hg : Gl X x) (hm : X.mg x = some (.ref f)) (hk : PySem.W.keepIn X.K (.ref f) = true) (hb : Binds X.K fd ps ds) (hd : Vals dvs ds)
    (hx : Passes CX X E) (ha : PA X (e :: es) t) (hdb : (x == ("__debug__" : Str)) = false := by decide) (he : starEach (e :: es) X.env = (false, eval e X.env) :: starEach es X.env := by rfl)
    (hpl : (backTo pos (starEach es X.env)).any (·.1) = false := by rfl) : PE X (.Call (.Name x p) (e :: es) [] pos) (tCall sp dvs E t) :=
  ⟨fun pins s σ H Q I h => wpAny_Call_Name_kw (ld_glob I hg hm (PySem.W.callWith_K (h₀ := X.base) I.ok.mod.kin hk
    (thn (ha.run pos pins s σ H _ I h) fun us s1 ⟨vs, H1, I1, r, q⟩ => ⟨I1.kIn, run_g F hr hG hb hd hx I1 r q⟩) he hpl) hdb)⟩
/-- f() -/
theorem pe_call0G (F : FnG X.prog X.w X.K X.mg X.base CX k f fd ps sp) (hr : Room k X.A) (hG : X.A.guards = some []) (hg : Gl X x) (hm : X.mg x = some (.ref f)) (hk : PySem.W.keepIn X.K (.ref f) = true) (hb : Binds X.K fd ps ds) (hd : Vals dvs ds)
    (hx : Passes CX X E) (hdb : (x == ("__debug__" : Str)) = false := by decide) : PE X (.Call (.Name x p) [] [] pos) (tCall sp dvs E tNil) :=
  ⟨fun pins s σ H Q I h => wpAny_Call_Name_kw (ld_glob I hg hm (PySem.W.callWith_K0 I.kIn hk (run_g (us := []) F hr hG hb hd hx I .nil h)) hdb)⟩
/-- f(e, .., k = v, ..) -/
theorem pe_callKG (F : FnG X.prog X.w X.K X.mg X.base CX k f fd ps sp) (hr : Room k X.A) (hG : X.A.guards = some []) (hg : Gl X x) (hm : X.mg x = some (.ref f)) (hk : PySem.W.keepIn X.K (.ref f) = true) (hb : KBinds X.K fd ps ks g gV) (hx : Passes CX X E)
    (ha : PA X (e :: es) t) (hkw : PK X kws tk) (hall : (backToKw pos (keywordEach kws X.env)).all (·.1.isSome) = true := by rfl) (hks : (backToKw pos (keywordEach kws X.env)).filterMap (·.1) = ks := by rfl)
    (hdb : (x == ("__debug__" : Str)) = false := by decide) (he : starEach (e :: es) X.env = (false, eval e X.env) :: starEach es X.env := by rfl)
    (hpl : ((backTo pos (starEach (e :: es) X.env)).any (·.1) || (backToKw pos (keywordEach kws X.env)).any (·.1.isNone)) = false := by rfl) : PE X (.Call (.Name x p) (e :: es) kws pos) (tCallK sp gV E t tk) := by
  refine ⟨fun pins s σ H Q I h => wpAny_Call_Name_kw (ld_glob I hg hm (PySem.W.callWith_KW (h₀ := X.base) I.ok.mod.kin hk hall (thn (ha.run pos pins s σ H _ I h) fun us s1 ⟨vs, H1, I1, r, q⟩ =>
    thn (hkw.run pos pins s1 σ H1 _ I1 q) fun ws s2 ⟨zs, H2, I2, rz, q2⟩ => ⟨I2.kIn, ?_⟩) hpl he) hdb)⟩
  rw [hks]
  exact run_gk F hr hG hb hx I2 r rz q2
/-- f(k = v, ..) -/
theorem pe_callK0G (F : FnG X.prog X.w X.K X.mg X.base CX k f fd ps sp) (hr : Room k X.A) (hG : X.A.guards = some []) (hg : Gl X x) (hm : X.mg x = some (.ref f)) (hk : PySem.W.keepIn X.K (.ref f) = true) (hb : KBinds X.K fd ps ks g gV) (hx : Passes CX X E)
    (hkw : PK X kws tk) (hall : (backToKw pos (keywordEach kws X.env)).all (·.1.isSome) = true := by rfl) (hks : (backToKw pos (keywordEach kws X.env)).filterMap (·.1) = ks := by rfl) (hdb : (x == ("__debug__" : Str)) = false := by decide)
    (hpl : ((backTo pos (starEach [] X.env)).any (·.1) || (backToKw pos (keywordEach kws X.env)).any (·.1.isNone)) = false := by rfl) : PE X (.Call (.Name x p) [] kws pos) (tCallK sp gV E tNil tk) := by
  refine ⟨fun pins s σ H Q I h => wpAny_Call_Name_kw (ld_glob I hg hm (PySem.W.callWith_KW0 (h₀ := X.base) I.ok.mod.kin hk hall (thn (hkw.run pos pins s σ H _ I h) fun ws s1 ⟨zs, H1, I1, rz, q1⟩ => ⟨I1.kIn, ?_⟩) hpl) hdb)⟩
  rw [hks]
  exact run_gk F hr hG hb hx I1 .nil rz q1
end

section
variable {P : Program} {w : World} {K : PySem.W.Frag} {mg : Str → Option Value} {base : Heap}
/-- a def's promise by its body -/
theorem okG {CX : CXT} {x qual : Str} {st : Stmt} {f : Addr} {fd : FuncData} {N ps : List Str} {k : Nat} {sp : Sp} (F : Fun K x qual st f fd) (S : FnScope N ps (defScope st)) (len : ∀ vs H Q E, sp vs H Q E → vs.length = ps.length)
    (body : ∀ (cdv : Value) (A : Around) (outer : List Env) (s : Shared) (H : Hp) (vs : List V) (Q : VK) (E : XK), Room k (A.deeper (envOfC qual (defScope st) s.heap.objs.size f cdv)) → A.guards = some [] → sp vs H Q E →
      ∃ t, PSs (cxOf CX P w K mg base N qual (defScope st) f cdv A outer s H E) (defBody st) t ∧ t { nx := fun _ H' => Q .non H', rt := Q } (start N vs) H) : FnG P w K mg base CX (k + 1) f fd ps sp := by
  obtain ⟨oc, od, kV, doc, pm, an, cdv, ct, osl, rfl, lk, hcd⟩ := F.ex
  refine ⟨len, fun A outer s H args us vs Q E hr hG e0 hb rel hsp => ?_⟩
  have low : ∀ b o, base.get? b = some o → s.heap.get? b = some o := fun b o e => (e0.bs b o e).1
  have KX : K.In s.heap := e0.mod.kin.keeps low
  refine codeAny_call_function hr.depth (KX _ _ lk) rfl S.co S.gen rfl (PySem.W.codeRec_of KX hcd) (hb _ _ _ _ (wpAny_newFunctionEnv_cells S.kind ?kind fun env he s1 x => ?_))
  case kind =>
    rintro ⟨n, v⟩ hy
    exact (S.par n (List.of_mem_zip hy).1).imp id fun q => ⟨q, PySem.W.cellsFrom_some _ _ _ (.inl q)⟩
  subst he
  refine ⟨(e0.mod.nolimit.keeps low).keeps x.toInCall.keep, codeAny_func ?_⟩
  obtain ⟨t, ht, hq⟩ := body cdv A outer s H vs Q E (hr.deeper _) hG hsp
  have I := inv_start (CX := CX) (E := E) (qual := qual) (f := f) (cd := cdv) S hr.hd e0 (len _ _ _ _ hsp) rel x
  refine wpAny_mono (ht.run [] s1 (start N vs) H _ I hq) (fun fl s' hs => ?_) fun e s' hs => hs
  match fl, hs with
  | .ret u, ⟨v, σ', H', J, rv, q⟩ => exact ⟨v, H', J.os, J.bare, J.base, J.hok, rv, q⟩
  | .next, ⟨σ', H', J, q⟩ => exact ⟨.non, H', J.os, J.bare, J.base, J.hok, rfl, q⟩
  | .brk, ⟨_, _, _, q⟩ => exact q.elim
  | .cont, ⟨_, _, _, q⟩ => exact q.elim
/-- the same, nothing is raised out of the def -/
theorem okG0 {x qual : Str} {st : Stmt} {f : Addr} {fd : FuncData} {N ps : List Str} {k : Nat} {sp : Sp} (F : Fun K x qual st f fd) (S : FnScope N ps (defScope st)) (len : ∀ vs H Q E, sp vs H Q E → vs.length = ps.length)
    (body : ∀ (cdv : Value) (A : Around) (outer : List Env) (s : Shared) (H : Hp) (vs : List V) (Q : VK) (E : XK), Room k (A.deeper (envOfC qual (defScope st) s.heap.objs.size f cdv)) → A.guards = some [] → sp vs H Q E →
      ∃ t, PSs (cxOf CX0 P w K mg base N qual (defScope st) f cdv A outer s H E).nox (defBody st) t ∧ t { nx := fun _ H' => Q .non H', rt := Q } (start N vs) H) : FnG P w K mg base CX0 (k + 1) f fd ps sp :=
  okG F S len fun cdv A outer s H vs Q E hr hG h => let ⟨t, h1, h2⟩ := body cdv A outer s H vs Q E hr hG h; ⟨t, h1.nox, h2⟩

/-- the law's call: H tells the script alone (or nothing, where it is an object of the top) -/
theorem law_at {CX : CXT} {k : Nat} {fa a : Addr} {fd : FuncData} {x : Str} {sp : Sp} {s₁ : Shared} {mb : Str → Option Value} {H : Hp} (KX : K.In s₁.heap) (hns : s₁.heap.Ns mainGlobals mg) (hb : s₁.heap.Ns builtinsNs mb) (hbb : ∀ x : Str, x ≠ "__name__" → mb x = bootBuiltins x)
    (hlim : s₁.heap.NoLimit) (hg : s₁.gens = #[]) (hr : Room k callerA) (hok : HOk P w H s₁.heap) (hO : Only H) (hK : ∀ b, H b ≠ none → K.lookup b = none) (hD : ∀ b o es ep, s₁.heap.get? b = some o → o.data = .dict es ep → H b = none)
    (F : ∀ base : Heap, K.In base → base.Ns mainGlobals mg → FnG P w K mg base CX k fa fd [x] sp) (hbind : ∀ (s : Shared) (u : Value), BindsTo s fd ⟨[u], []⟩ [(x, u)])
    (hsp : sp [.ref a] H (fun v _ => v = .bl true) fun _ _ _ => False) (hCX : ∀ e s', CX [] H s₁ (fun _ _ _ => False) e s' → False) :
    codeAny (model P w) callerA (.call (.ref fa) ⟨[.ref a], []⟩) (fun r s' => r = .ok (.ret (.bool true)) ∧ OldK s₁.heap s'.heap ∧ s'.os = s₁.os ∧ AllBare s'.gens) s₁ := by
  have nsB : ∀ {b : Addr} {m : Str → Option Value}, s₁.heap.Ns b m → (hidT s₁.heap H).Ns b m := fun ⟨o, es, ep, e, d, r⟩ => ⟨o, es, ep, hidT_get e (hD _ _ _ _ e d), d, r⟩
  have kB : K.In (hidT s₁.heap H) := fun b o e => hidT_get (KX b o e) (Classical.byContradiction fun z => by
    have := hK b z
    rw [e] at this
    cases this)
  have md : Mod K mg (hidT s₁.heap H) := ⟨kB, nsB hns, ⟨mb, nsB hb, hbb⟩, let ⟨mc, h1, h2⟩ := hlim; ⟨mc, nsB h1, h2⟩⟩
  have e0 : Env0 P w K mg (hidT s₁.heap H) callerA [] s₁ H := ⟨rfl, md, fun _ _ e => of_hidT e, Nat.le_of_eq (hidT_size _ _), trivial, (fun b z => absurd (show b ∈ ([] : List Addr) from z) (by simp)), hok, AllBare.of_eq hg⟩
  refine codeAny_mono ((F _ kB (nsB hns)).run callerA [] s₁ H ⟨[.ref a], []⟩ [.ref a] [.ref a] _ _ hr rfl e0 (hbind s₁ (.ref a)) (.cons rfl .nil) hsp) fun r s' h => ?_
  match r, h with
  | .error e, h => exact (hCX e s' h).elim
  | .ok .next, h => exact h.elim
  | .ok .brk, h => exact h.elim
  | .ok .cont, h => exact h.elim
  | .ok (.ret u), ⟨v, H', os, bare, un, hok', rv, q⟩ =>
    obtain rfl : v = V.bl true := q
    obtain rfl : u = Value.bool true := rv
    refine ⟨rfl, OldK.of_keep fun b o e => ?_, os, bare⟩
    rcases hO b with z | ⟨ob, xs, z⟩
    · exact un.keep b o e z (fun y => absurd (show b ∈ ([] : List Addr) from y) (by simp)) (by simp)
    · have e1 := (hok b _ z).1
      have e2 := (hok' b _ (un.frzs b ob _ z)).1
      rw [← Option.some.inj (e1.symm.trans e)]
      exact e2
end
/-- the goal that k_head leaves, by the law's promise -/
theorem walk_ofG {l : PySem.W.OpenLaw} {n k : Nat} {q : Program} {loose : List Str} {XP : (Str → Option Value) → Heap → Prop} {YP : World → Heap → Prop} {d : DefRec} {K : Params → PySem.W.Frag} {CX : World → CXT} {sp : World → Sp} {x : Str}
    (hn : l.most = some n) (hn2 : n ≤ sizeLine) (hdf : d.params.defaults = []) (hr : Room k callerA) (hY : ∀ (w : World) (h : Heap), YP w h → (K w.params).In h)
    (F : ∀ (w : World) (mg : Str → Option Value) (fa : Addr) (h : Heap), (K w.params).In h → h.Ns mainGlobals mg → mg d.name = some (.ref fa) → ∃ fd : FuncData, (∀ (s : Shared) (u : Value), BindsTo s fd ⟨[u], []⟩ [(x, u)]) ∧
      ∀ base : Heap, (K w.params).In base → base.Ns mainGlobals mg → FnG l.prog w (K w.params) mg base (CX w) k fa fd [x] (sp w))
    (hsp : ∀ (w : World) (H : Hp) (a : Addr) (ns : List Int), ns.length ≤ n → Only H → SqL (K w.params) H a (ns.map V.int) → sp w [.ref a] H (fun v _ => v = .bl true) fun _ _ _ => False)
    (hCX : ∀ (w : World) (H : Hp) (s : Shared) (e : Value) (s' : Shared), CX w [] H s (fun _ _ _ => False) e s' → False) : PySem.W.WalkO q loose XP YP l.row.toRowW d [] (fun f vs => PySem.call f vs) := by
  refine Att.attach_call hn hdf fun w s₀ s₁ mg mb fa o pm cd doc a vs ns G Y ho hd hcd hmg hobj hints hlen hg => ?_
  have KX := hY w _ Y
  obtain ⟨fd, hb, hF⟩ := F w mg fa _ KX G.T.g hmg
  have rv := vals_ints hints
  have lenV := hints.length
  have hl : ns.length ≤ sizeLine := Nat.le_trans hlen hn2
  cases hk : (K w.params).lookup a with
  | some ob =>
    have e := KX a ob hk
    rw [hobj] at e
    cases e
    refine law_at (H := fun _ => none) KX G.T.g G.T.b G.T.builtins G.T.nolimit hg hr (fun b u z => nomatch z) (fun _ => .inl rfl) (fun b z => absurd rfl z) (fun _ _ _ _ _ _ => rfl) hF hb
      (hsp w _ a ns hlen (fun _ => .inl rfl) (.inr ⟨_, vs.toArray, _, hk, rfl, rfl, rfl, by rw [List.size_toArray, lenV]; exact hl, by simpa using rv⟩)) fun e s' => hCX w _ s₁ e s'
  | none =>
    have at' : ∀ {b : Addr} {u : HO}, (if b = a then some (HO.frz { cls := .type "list", data := .seq vs.toArray } (.lst (ns.map V.int))) else none) = some u → b = a ∧ u = .frz { cls := .type "list", data := .seq vs.toArray } (.lst (ns.map V.int)) := fun {b u} z => by
      by_cases hba : b = a
      · rw [if_pos hba] at z
        exact ⟨hba, (Option.some.inj z).symm⟩
      · rw [if_neg hba] at z
        cases z
    have only : Only fun b => if b = a then some (HO.frz { cls := .type "list", data := .seq vs.toArray } (.lst (ns.map V.int))) else none := fun b => by
      by_cases hba : b = a
      · exact .inr ⟨_, _, if_pos hba⟩
      · exact .inl (if_neg hba)
    refine law_at (H := fun b => if b = a then some (.frz { cls := .type "list", data := .seq vs.toArray } (.lst (ns.map V.int))) else none) KX G.T.g G.T.b G.T.builtins G.T.nolimit hg hr (fun b u z => ?_) only (fun b z => ?_) (fun b o es ep e d => ?_) hF hb
      (hsp w _ a ns hlen only (.inl (.inr ⟨{ cls := .type "list", data := .seq vs.toArray }, if_pos rfl⟩))) fun e s' => hCX w _ s₁ e s'
    · obtain ⟨rfl, rfl⟩ := at' z
      exact ⟨hobj, by rw [List.length_map]; exact hl, vs, _, rv, hobj⟩
    · by_cases hba : b = a
      · rw [hba]
        exact hk
      · exact absurd (if_neg hba) z
    · by_cases hba : b = a
      · subst hba
        rw [hobj] at e
        cases e
        cases d
      · exact if_neg hba
end GL

set_option Elab.async false
set_option linter.all false
set_option maxRecDepth 100000
/-! Data: None, bools, ints, texts, lists, tuples and dicts (with text and int keys) at any depth, as they stand in H; repr of them -/
namespace GL
open PySem PySem.Spec PyProof.Rows L2

def keyD : Key → PyData
  | .inl i => .int i
  | .inr x => .str x
mutual
inductive DV (K : PySem.W.Frag) (H : Hp) : V → PyData → Prop
  | non : DV K H .non .none
  | bl (b : Bool) : DV K H (.bl b) (.bool b)
  | int (i : Int) : DV K H (.int i) (.int i)
  | str (x : Str) : DV K H (.str x) (.str x)
  | lst {a : Addr} {xs : List V} {ds : List PyData} : SqL K H a xs → a ≠ sysModules → DVs K H xs ds → DV K H (.ref a) (.list ds)
  | tup {a : Addr} {xs : List V} {ds : List PyData} : SqT K H a xs → DVs K H xs ds → DV K H (.ref a) (.tuple ds)
  | dct {a : Addr} {kvs : List (Key × V)} {ds : List (PyData × PyData)} : Rd H a (.dK kvs) → DVk K H kvs ds → DV K H (.ref a) (.dict ds)
inductive DVs (K : PySem.W.Frag) (H : Hp) : List V → List PyData → Prop
  | nil : DVs K H [] []
  | cons {v : V} {vs : List V} {d : PyData} {ds : List PyData} : DV K H v d → DVs K H vs ds → DVs K H (v :: vs) (d :: ds)
inductive DVk (K : PySem.W.Frag) (H : Hp) : List (Key × V) → List (PyData × PyData) → Prop
  | nil : DVk K H [] []
  | cons {k : Key} {v : V} {vs : List (Key × V)} {d : PyData} {ds : List (PyData × PyData)} : DV K H v d → DVk K H vs ds → DVk K H ((k, v) :: vs) ((keyD k, d) :: ds)
end
theorem same_T {K : PySem.W.Frag} {H H' : Hp} {a : Addr} {xs : List V} (e : Same H H') (h : SqT K H a xs) : SqT K H' a xs := by
  rcases h with (h | ⟨o, h⟩) | h
  · exact .inl (.inl (e _ _ h))
  · exact .inl (.inr ⟨o, e _ _ h⟩)
  · exact .inr h
mutual
theorem DV.same {K : PySem.W.Frag} {H H' : Hp} (e : Same H H') : ∀ {v : V} {d : PyData}, DV K H v d → DV K H' v d
  | _, _, .non => .non
  | _, _, .bl b => .bl b
  | _, _, .int i => .int i
  | _, _, .str x => .str x
  | _, _, .lst h n t => .lst (e.seq h) n (DVs.same e t)
  | _, _, .tup h t => .tup (same_T e h) (DVs.same e t)
  | _, _, .dct h t => .dct (h.elim (fun z => .inl (e _ _ z)) fun ⟨o, z⟩ => .inr ⟨o, e _ _ z⟩) (DVk.same e t)
theorem DVs.same {K : PySem.W.Frag} {H H' : Hp} (e : Same H H') : ∀ {v : List V} {d : List PyData}, DVs K H v d → DVs K H' v d
  | _, _, .nil => .nil
  | _, _, .cons a t => .cons (DV.same e a) (DVs.same e t)
theorem DVk.same {K : PySem.W.Frag} {H H' : Hp} (e : Same H H') : ∀ {v : List (Key × V)} {d : List (PyData × PyData)}, DVk K H v d → DVk K H' v d
  | _, _, .nil => .nil
  | _, _, .cons a t => .cons (DV.same e a) (DVk.same e t)
end
section
variable {X : Cx} {pins : List (Addr × Obj)} {σ : L2.St} {H : Hp} {s : Shared}
theorem keyD_reads {k : Key} {v : Value} (h : keyIs k v = true) : Reads s.heap v (keyD k) [] := by
  rcases keyIs_shape h with ⟨i, t, rfl, rfl⟩ | ⟨x, t, rfl, rfl⟩
  · exact Reads.int i t
  · exact Reads.str x t
mutual
theorem DV.reads (I : Inv X pins σ H s) : ∀ {v : V} {d : PyData} {u : Value}, DV X.K H v d → RelV v u → ∃ as, Reads s.heap u d as ∧ sysModules ∉ as
  | _, _, _, .non, r => by
    cases r
    exact ⟨_, Reads.none, by simp⟩
  | _, _, _, .bl b, r => by
    cases r
    exact ⟨_, Reads.bool b, by simp⟩
  | _, _, _, .int i, r => by
    obtain ⟨t, rfl⟩ := r
    exact ⟨_, Reads.int i t, by simp⟩
  | _, _, _, .str x, r => by
    obtain ⟨t, rfl⟩ := r
    exact ⟨_, Reads.str x t, by simp⟩
  | _, _, _, .lst h n t, r => by
    cases r
    obtain ⟨its, rv, pl, _⟩ := I.list h
    obtain ⟨o, ho, hc, m, hd⟩ := pl.isList
    obtain ⟨as, ra, na⟩ := DVs.reads I t rv
    refine ⟨_, Reads.list ho hc hd (by simpa using ra), fun z => ?_⟩
    rcases List.mem_cons.mp z with z | z
    · exact n z.symm
    · exact na z
  | _, _, _, .tup h t, r => by
    cases r
    obtain ⟨its, rv, ⟨o, ho, hc, m, hd⟩, _⟩ := I.tuple h
    obtain ⟨as, ra, na⟩ := DVs.reads I t rv
    exact ⟨_, Reads.tuple ho hc hd (by simpa using ra), na⟩
  | _, _, _, .dct h t, r => by
    cases r
    obtain ⟨_, hs, vs, rel, o, es, ep, ho, hx, hd, _, pr, _⟩ := dk_rd I.hok h
    obtain ⟨as, ra, rb, na⟩ := DVk.reads I t rel pr
    refine ⟨_, Reads.dict ho hx.1 hd ra rb, fun z => ?_⟩
    rcases List.mem_append.mp z with z | z
    · rcases List.mem_cons.mp z with z | z
      · exact beq_eq_false_iff_ne.mp hs z.symm
      · exact absurd z (by simp)
    · exact na z
theorem DVs.reads (I : Inv X pins σ H s) : ∀ {v : List V} {d : List PyData} {u : List Value}, DVs X.K H v d → Vals v u → ∃ as, ReadsAll s.heap u d as ∧ sysModules ∉ as
  | _, _, _, .nil, .nil => ⟨_, ReadsAll.nil, by simp⟩
  | _, _, _, .cons a t, .cons r q => by
    obtain ⟨as, ra, na⟩ := DV.reads I a r
    obtain ⟨bs, rb, nb⟩ := DVs.reads I t q
    exact ⟨_, ReadsAll.cons ra rb, fun z => (List.mem_append.mp z).elim na nb⟩
theorem DVk.reads (I : Inv X pins σ H s) : ∀ {v : List (Key × V)} {d : List (PyData × PyData)} {u : List (Key × Value)} {es : List DictEntry}, DVk X.K H v d → KV v u → Pairs (mixKind X.prog X.w) es u →
    ∃ bs, ReadsAll s.heap (es.map (·.key)) (d.map (·.1)) [] ∧ ReadsAll s.heap (es.map (·.val)) (d.map (·.2)) bs ∧ sysModules ∉ bs
  | _, _, _, _, .nil, .nil, .nil => ⟨_, ReadsAll.nil, ReadsAll.nil, by simp⟩
  | _, _, _, _, .cons (k := k) a t, .cons r q, .cons hk ev p => by
    obtain ⟨as, ra, na⟩ := DV.reads I a r.2
    obtain ⟨bs, r1, r2, nb⟩ := DVk.reads I t q p
    rw [← ev] at ra
    rw [← r.1] at hk
    exact ⟨as ++ bs, ReadsAll.cons (as := []) (keyD_reads (k := k) hk) r1, ReadsAll.cons ra r2, fun z => (List.mem_append.mp z).elim na nb⟩
end
/-- repr(x) of data -/
def rRepr (K : PySem.W.Frag) : List V → Hp → VK → Prop := fun vs H Q => ∃ (x : V) (d : PyData), vs = [x] ∧ DV K H x d ∧ d.showable = true ∧ d.depth ≤ 60 ∧ d.shown.length ≤ sizeLine ∧ Q (.str d.shown) H
theorem call_reprD (hG : X.A.guards = some []) (hu : X.A.units + 64 < cLine) : CallR X (.builtin "repr") (rRepr X.K) := by
  intro pins s σ H vs us Q I r h
  obtain ⟨x, d, rfl, hd, sh, dp, sz, q⟩ := h
  obtain ⟨u, rfl, ru⟩ := vals1 r
  have out : ∀ {t : Tok} {tk : Nat}, EP X pins σ Q (.str d.shown t) { s with toks := tk } := fun {t tk} => ⟨.str d.shown, H, I.tok _, ⟨t, rfl⟩, q⟩
  cases hd with
  | non =>
    cases ru
    exact P.repr_of_none out
  | bl b =>
    cases ru
    refine P.repr_of_bool ?_
    cases b <;> exact out
  | int i =>
    obtain ⟨t, rfl⟩ := ru
    exact P.repr_of_int (of_decide_eq_true (by simpa [PyData.showable] using sh)) out
  | str z =>
    obtain ⟨t, rfl⟩ := ru
    exact P.repr_of_str out sz
  | lst h1 h2 h3 =>
    cases ru
    obtain ⟨as, ra, na⟩ := DV.reads I (DV.lst h1 h2 h3) rfl
    exact repr_of_reads' ra sh (fun _ => na) hG (by omega) (fun _ _ e => e) (fun h' t tk hk => ⟨.str _, H, I.kept hk, ⟨t, rfl⟩, q⟩) sz
  | tup h1 h2 =>
    cases ru
    obtain ⟨as, ra, na⟩ := DV.reads I (DV.tup h1 h2) rfl
    exact repr_of_reads' ra sh (fun _ => na) hG (by omega) (fun _ _ e => e) (fun h' t tk hk => ⟨.str _, H, I.kept hk, ⟨t, rfl⟩, q⟩) sz
  | dct h1 h2 =>
    cases ru
    obtain ⟨as, ra, na⟩ := DV.reads I (DV.dct h1 h2) rfl
    exact repr_of_reads' ra sh (fun _ => na) hG (by omega) (fun _ _ e => e) (fun h' t tk hk => ⟨.str _, H, I.kept hk, ⟨t, rfl⟩, q⟩) sz
/-- [a, b, ..], where it stands known to be none of the system's own -/
def tLstB (t : TA) : TE := fun σ H Q => t σ H fun xs H1 => xs.length ≤ sizeLine ∧ ∀ p, H1 p = none → p ≠ sysModules → Q (.ref p) (upd H1 p (.lst xs))
theorem pe_lstB {es : List Expr} {t : TA} {pos : Pos} (h : PA X es t) : PE X (.List es pos) (tLstB t) := by
  refine ⟨fun pins s σ H Q I hq => wpAny_List_spliced (thn (h.run pos pins s σ H _ I hq) fun us s1 ⟨xs, H1, I1, r, z, q⟩ => ⟨by rw [← r.length]; exact z, ?_⟩)⟩
  exact ⟨.ref s1.heap.objs.size, _, I1.laid (o := .lst xs) (t' := s1.toks) (fun b u e => Heap.get?_push_of_some _ e) (Nat.le_refl _) ⟨z, us, 0, r, Heap.get?_push_size _ rfl⟩, rfl, q _ (I1.hok.fresh (Nat.le_refl _)) (Nat.ne_of_gt I1.big)⟩
end
/-- a def of the program by its promise, as a caller wants it -/
structure DnG (P : Program) (w : World) (K : PySem.W.Frag) (mg : Str → Option Value) (base : Heap) (x : Str) (k : Nat) (ps : List Str) (sp : Sp) where
  f : Addr
  fd : FuncData
  ok : FnG P w K mg base CX0 k f fd ps sp
  g : mg x = some (.ref f)
  kp : PySem.W.keepIn K (.ref f) = true
  b : Binds K fd ps []
section
variable {X : Cx}
/-- list(s) of a text -/
def signs (x : Str) : List V := x.cps.toList.map fun c => V.str ⟨#[c]⟩
theorem call_listS (hc : X.calm = true) : CallR X (.type "list") (fun xs H Q => ∃ x : Str, xs = [.str x] ∧ x.length ≤ sizeLine ∧ ∀ l, H l = none → Q (.ref l) (upd H l (.lst (signs x)))) := by
  intro pins s σ H xs us Q I r h
  obtain ⟨x, rfl, hz, q⟩ := h
  obtain ⟨u, rfl, t, rfl⟩ := vals1 r
  refine call_list_str (I.ok.hd hc) x t (fun h' tk acc c hk hS hacc => ?_) hz
  have len : acc.toList.length = x.cps.toList.length := by
    rw [Array.length_toList, Array.length_toList]
    exact hacc.1
  refine ⟨.ref s.heap.objs.size, _, I.laid (o := .lst (signs x)) hk (Nat.le_refl _) ⟨?_, acc.toList, c, ?_, by rw [Array.toArray_toList]; exact hS⟩, rfl, q _ (I.hok.fresh (Nat.le_refl _))⟩
  · unfold signs
    rw [List.length_map, Array.length_toList]
    exact hz
  · refine vals_of_at (by rw [signs, List.length_map, len]) fun j v u h1 h2 => ?_
    obtain ⟨c', u', e1, rfl⟩ := hacc.2 j u (by rw [← h2, Array.getElem?_toList])
    rw [signs, List.getElem?_map, Array.getElem?_toList, e1] at h1
    cases h1
    exact ⟨u', rfl⟩
end
end GL

set_option Elab.async false
set_option linter.all false
set_option maxRecDepth 100000
/-! rules that the layer lacks: max(xs, default=d), tuple.index of flat things, a power of a great number -/
namespace GL
open PySem PySem.Spec PyProof.Rows L2

section
variable {prog : Program} {w : World} {A : Around} {R : Result → Shared → Prop} {I S : Addr} {fp wr : List Addr} {n : Nat} {P : Nat → Value → Prop} {St : Nat → Heap → Prop} {bt : Nat → Nat → Bool} {kw : List (Str × Value)}

/-- the list that holds the best item so far -/
abbrev keptAt (h : Heap) (S : Addr) (vs : Array Value) : Prop := ∃ c, h.get? S = some { cls := .type "list", dict := none, data := .seq vs c, slots := #[] }

/-- max.loop with keywords, an item being held: d turns are left -/
theorem loop_kw (W : Walks prog w A.in1 I fp wr n P St) (cmp : CmpOf prog w A.in1 .Gt P bt) (out : S ∉ fp) :
    ∀ (d j : Nat), j + 1 + d = n → ∀ (s : Shared) (v0 : Value), St (j + 1) s.heap → P (argBest bt j) v0 → keptAt s.heap S #[v0, v0] →
      (∀ v h' tk, P (argBest bt (n - 1)) v → (∀ b o, b ∉ wr → b ≠ S → s.heap.get? b = some o → h'.get? b = some o) → R (.ok (.ret v)) { s with heap := h', toks := tk }) →
      codeAny (model prog w) A (.builtin "max.loop" ⟨[.ref I, .none, .ref S], kw⟩) R s := by
  have outW : S ∉ wr := fun z => out (W.sub _ z)
  have nm : (toString "max" ++ toString ".loop" : String) = "max.loop" := by decide
  intro d
  induction d with
  | zero =>
    intro j ej s v0 st p0 ⟨c, hS⟩ fin
    refine codeAny_builtin F.entry_max_loop ?_ <;> rw [Around.under_plainId F.plain_max_loop _]
    show wpAny (model prog w) A.in1 (seqItems? (.ref S) >>= _) _ _ s
    refine wpAny_bind (wpAny_seqItems hS rfl (wpAny_bind (wpAny_tryCatch (W.done s _ _ (show St n s.heap from ej ▸ st) fun h1 t1 keep => ?_))))
    have hS1 := keep S _ outW hS
    refine wpAny_bind (wpAny_updateSeq hS1 rfl (wpAny_bind (wpAny_letGo (wpAny_pure (fin v0 _ t1 ?_ fun b o nb ns e => ?_)))))
    · have e1 : n - 1 = j := by omega
      rw [e1]
      exact p0
    · exact (Heap.get?_update_other _ _ (Ne.symm ns)).trans (keep b o nb e)
  | succ d ih =>
    intro j ej s v0 st p0 ⟨c, hS⟩ fin
    refine codeAny_builtin F.entry_max_loop ?_ <;> rw [Around.under_plainId F.plain_max_loop _]
    show wpAny (model prog w) A.in1 (seqItems? (.ref S) >>= _) _ _ s
    refine wpAny_bind (wpAny_seqItems hS rfl (wpAny_bind (wpAny_tryCatch (W.item (j + 1) s _ _ (by omega) st fun v h1 t1 pv st1 keep => ?_))))
    have hS1 := keep S _ outW hS
    refine wpAny_bind (wpAny_pure (wpAny_bind (wpAny_tryCatch (wpAny_holding (wpAny_bind (cmp (j + 1) (argBest bt j) v v0 _ _ _ pv p0 ?_))))))
    refine wpAny_bind (wpAny_holding (wpAny_truthy_bool (wpAny_bind (wpAny_letGo (wpAny_pure ?_)))))
    cases hb : bt (j + 1) (argBest bt j) with
    | true =>
      have p1 : P (argBest bt (j + 1)) v := by
        simp only [argBest, hb, if_true]
        exact pv
      simp only [if_true]
      refine wpAny_bind (wpAny_updateSeq hS1 rfl (wpAny_bind (wpAny_letGo ?_)))
      rw [nm]
      refine wpAny_pure ⟨plainId_quiet F.plain_max_loop _, ih (j + 1) (by omega) _ v (W.frame _ _ _ st1 fun b hb o e => ?_) p1 ⟨_, Heap.get?_update_self _ hS1 rfl⟩ fun v' h2 t2 pv' keep2 => ?_⟩
      · exact (Heap.get?_update_other _ _ (fun z : S = b => out (by rw [z]; exact hb))).trans e
      · exact fin v' h2 t2 pv' fun b o nb ns e => keep2 b o nb ns ((Heap.get?_update_other _ _ (Ne.symm ns)).trans (keep b o nb e))
    | false =>
      have p1 : P (argBest bt (j + 1)) v0 := by
        simp only [argBest, hb, Bool.false_eq_true, if_false]
        exact p0
      simp only [Bool.false_eq_true, if_false]
      refine wpAny_bind (wpAny_letGo ?_)
      rw [nm]
      refine wpAny_pure ⟨plainId_quiet F.plain_max_loop _, ih (j + 1) (by omega) _ v0 st1 p1 ⟨_, hS1⟩ fun v' h2 t2 pv' keep2 => ?_⟩
      exact fin v' h2 t2 pv' fun b o nb ns e => keep2 b o nb ns (keep b o nb e)

/-- max.loop with keywords, before the first item -/
theorem loop_kw0 (W : Walks prog w A.in1 I fp wr n P St) (cmp : CmpOf prog w A.in1 .Gt P bt) (out : S ∉ fp) (pos : 0 < n) {s : Shared} (st : St 0 s.heap) (kS : keptAt s.heap S #[])
    (fin : ∀ v h' tk, P (argBest bt (n - 1)) v → (∀ b o, b ∉ wr → b ≠ S → s.heap.get? b = some o → h'.get? b = some o) → R (.ok (.ret v)) { s with heap := h', toks := tk }) :
    codeAny (model prog w) A (.builtin "max.loop" ⟨[.ref I, .none, .ref S], kw⟩) R s := by
  have outW : S ∉ wr := fun z => out (W.sub _ z)
  have nm : (toString "max" ++ toString ".loop" : String) = "max.loop" := by decide
  obtain ⟨c, hS⟩ := kS
  refine codeAny_builtin F.entry_max_loop ?_ <;> rw [Around.under_plainId F.plain_max_loop _]
  show wpAny (model prog w) A.in1 (seqItems? (.ref S) >>= _) _ _ s
  refine wpAny_bind (wpAny_seqItems hS rfl (wpAny_bind (wpAny_tryCatch (W.item 0 s _ _ pos st fun v h1 t1 pv st1 keep => ?_))))
  have hS1 := keep S _ outW hS
  refine wpAny_bind (wpAny_pure (wpAny_bind (wpAny_updateSeq hS1 rfl ?_)))
  rw [nm]
  refine wpAny_pure ⟨plainId_quiet F.plain_max_loop _, loop_kw W cmp out (n - 1) 0 (by omega) _ v (W.frame _ _ _ st1 fun b hb o e => ?_) pv ⟨_, Heap.get?_update_self _ hS1 rfl⟩ fun v' h2 t2 pv' keep2 => ?_⟩
  · exact (Heap.get?_update_other _ _ (fun z : S = b => out (by rw [z]; exact hb))).trans e
  · exact fin v' h2 t2 pv' fun b o nb ns e => keep2 b o nb ns ((Heap.get?_update_other _ _ (Ne.symm ns)).trans (keep b o nb e))
/-- max.loop of nothing gives the default -/
theorem loop_none (W : Walks prog w A.in1 I fp wr 0 P St) (out : S ∉ fp) {s : Shared} (st : St 0 s.heap) (kS : keptAt s.heap S #[]) {d : Value}
    (fin : ∀ h' tk, (∀ b o, b ∉ wr → b ≠ S → s.heap.get? b = some o → h'.get? b = some o) → R (.ok (.ret d)) { s with heap := h', toks := tk }) :
    codeAny (model prog w) A (.builtin "max.loop" ⟨[.ref I, .none, .ref S], [("default", d)]⟩) R s := by
  have outW : S ∉ wr := fun z => out (W.sub _ z)
  obtain ⟨c, hS⟩ := kS
  refine codeAny_builtin F.entry_max_loop ?_ <;> rw [Around.under_plainId F.plain_max_loop _]
  show wpAny (model prog w) A.in1 (seqItems? (.ref S) >>= _) _ _ s
  refine wpAny_bind (wpAny_seqItems hS rfl (wpAny_bind (wpAny_tryCatch (W.done s _ _ st fun h1 t1 keep => ?_))))
  show wpAny (model prog w) A.in1 (rule _ >>= _) _ _ _
  refine wpAny_bind (wpAny_rule (wpAny_pure (fin h1 t1 fun b o nb _ e => keep b o nb e)))
end
section
variable {prog : Program} {w : World} {A : Around} {E : Value → Shared → Prop} {s : Shared} {l : Addr} {xs : Array (Int × Tok)}
/-- what a call of a built-in wants of its end -/
def EndOf (prog : Program) (w : World) (A : Around) (Q : Value → Shared → Prop) (E : Value → Shared → Prop) (fin : PySem.Fin) (s' : Shared) : Prop :=
  match fin with
  | .done f => (match (Except.ok f : Result) with | .ok (.ret v) => Q v s' | .ok _ => False | .error e => E e s')
  | .again c => c.quiet = true ∧ codeAny (model prog w) A c (fun r s2 => match r with | .ok (.ret v) => Q v s2 | .ok _ => False | .error e => E e s2) s'
theorem call_tree_kw {id : String} {b : Builtin} {args : List Value} {kw : List (Str × Value)} {Q : Value → Shared → Prop} (hk : builtinKind id = none) (hp : plainId id = true) (hb : entryFor table id = some b) (ha : argsOk id ⟨args, kw⟩)
    (hc : wpAny (model prog w) A.in1 (b ⟨args, kw⟩) (EndOf prog w A Q E) E s) : wpAny (model prog w) A (call (.builtin id) args kw) Q E s := by
  refine wpAny_call (codeAny_call_builtin hp hb ?_)
  simp only [checkBuiltinCall, hk]
  cases sg : Manifest.signature? id with
  | none => exact wpAny_pure hc
  | some g =>
    have e : Bind.checkArgs id g ⟨args, kw⟩ = pure () := by simpa only [argsOk, sg] using ha
    show wpAny _ _ (Bind.checkArgs id g ⟨args, kw⟩) _ _ s
    rw [e]
    exact wpAny_pure hc
theorem args_max_def (a d : Value) : argsOk "max" ⟨[a], [("default", d)]⟩ := by unfold argsOk; kernel_rfl
/-- max(l, default=d) of a list of ints -/
theorem max_def {Q : Value → Shared → Prop} {d : Value} (hh : A.handled = none) (hl : s.heap.IsList l (intItems xs))
    (h0 : xs.size = 0 → ∀ h' tk, (∀ b o, s.heap.get? b = some o → h'.get? b = some o) → Q d { s with heap := h', toks := tk })
    (h : ∀ v h' tk, 0 < xs.size → (intItems xs)[argBest (fun i j => decide (numAt xs i > numAt xs j)) (xs.size - 1)]? = some v → (∀ b o, s.heap.get? b = some o → h'.get? b = some o) → Q v { s with heap := h', toks := tk }) :
    wpAny (model prog w) A (call (.builtin "max") [.ref l] [("default", d)]) Q E s := by
  have nm : (toString "max" ++ toString ".loop" : String) = "max.loop" := by decide
  refine call_tree_kw F.kind_max F.plain_max F.entry_max (args_max_def _ _) ?_
  show wpAny (model prog w) A.in1 (Builtin.Builtins.bindParams "max" ["key", "default"] 0 ⟨[], [("default", d)]⟩ >>= _) _ _ s
  refine wpAny_bind (wpAny_of_eq (show Builtin.Builtins.bindParams "max" ["key", "default"] 0 ⟨[], [("default", d)]⟩ = pure [none, some d] from rfl) ?_)
  refine wpAny_bind (wpAny_pure (wpAny_bind (iter_intList hl fun s₂ e st hfp hlI => ?_)))
  subst e
  have W := Walks.list (prog := prog) (w := w) (A := A.in1) hh _ l hlI (intItems xs)
  refine wpAny_bind (wpAny_newObj_type ?_)
  rw [nm]
  have sf : (s.heap.push { cls := .type "list_iterator", data := .fields #[.ref l, .int 0 0] }).objs.size ∉ [s.heap.objs.size, l] := fun z => Nat.lt_irrefl _ (hfp _ z)
  refine wpAny_pure ⟨plainId_quiet F.plain_max_loop _, ?_⟩
  have push2 : ∀ (b : Addr) (o : Obj), (s.heap.push { cls := .type "list_iterator", data := .fields #[.ref l, .int 0 0] }).get? b = some o →
      ((s.heap.push { cls := .type "list_iterator", data := .fields #[.ref l, .int 0 0] }).push (seqObj "list" #[] 0)).get? b = some o := fun b o e => Heap.get?_push_of_some _ e
  have sz : (intItems xs).size = xs.size := by simp [intItems]
  have old : ∀ {h' : Heap}, (∀ b o, b ∉ [s.heap.objs.size] → b ≠ (s.heap.push { cls := .type "list_iterator", data := .fields #[.ref l, .int 0 0] }).objs.size →
      ((s.heap.push { cls := .type "list_iterator", data := .fields #[.ref l, .int 0 0] }).push (seqObj "list" #[] 0)).get? b = some o → h'.get? b = some o) → ∀ b o, s.heap.get? b = some o → h'.get? b = some o := fun k => old_kept fun b o nb e => k b o nb (Nat.ne_of_lt (Heap.lt_size e)) (push2 b o e)
  by_cases hz : xs.size = 0
  · have ez : (intItems xs).size = 0 := by rw [sz, hz]
    rw [ez] at W
    exact loop_none W sf (W.frame _ _ _ st fun b _ o e => push2 b o e) ⟨_, Heap.get?_push_size _ rfl⟩ fun h' tk keep => h0 hz h' tk (old keep)
  · refine loop_kw0 W (CmpOf.ints_gt (numAt xs) fun _ _ => intItems_at) sf (by omega) (W.frame _ _ _ st fun b _ o e => push2 b o e) ⟨_, Heap.get?_push_size _ rfl⟩ fun v h' tk pv keep => ?_
    rw [sz] at pv
    exact h v h' tk (by omega) pv (old keep)
end
/-! ### the rules by values -/
section
variable {X : Cx}
/-- max(xs, default=d) of a list of ints -/
def rMaxDef (K : PySem.W.Frag) : List V → List V → Hp → VK → Prop := fun vs zs H Q => ∃ (a : Addr) (ns : List Int) (d : V), vs = [.ref a] ∧ zs = [d] ∧ SqL K H a (ns.map V.int) ∧
  (ns = [] → Q d H) ∧ ∀ m, m ∈ ns → (∀ y ∈ ns, y ≤ m) → Q (.int m) H
theorem cr_maxDef (hc : X.calm = true) : CallRK X (.builtin "max") [Str.ofString "default"] (rMaxDef X.K) := by
  intro pins s σ H vs zs us ws Q I r rz h
  obtain ⟨a, ns, d, rfl, rfl, hs, q0, q⟩ := h
  obtain rfl := Vals.ref1 r
  obtain ⟨w1, rfl, rd⟩ := vals1 rz
  obtain ⟨its, rv, hl, _⟩ := I.list hs
  obtain ⟨xs, e⟩ := rv.ints.allInts.items
  have hn : numsOf (intItems xs).toList = ns := by
    rw [← e]
    exact rv.ints.numsOf
  rw [nums_intItems] at hn
  subst hn
  have hl2 := hl.isList
  rw [e] at hl2
  refine max_def (I.ok.hd hc) hl2 (fun z h' tk hk => ⟨d, H, I.kept hk, rd, q0 ?_⟩) fun v h' tk pos hv hk => ?_
  · have : xs.toList = [] := by
      apply List.eq_nil_of_length_eq_zero
      simpa using z
    rw [this]
    rfl
  · obtain ⟨t, rfl⟩ := intItems_at hv
    obtain ⟨h1, h2⟩ := argBest_gt (numAt xs) (xs.size - 1)
    refine ⟨.int _, H, I.kept hk, ⟨_, rfl⟩, q _ ?_ fun y hy => ?_⟩
    · rw [numAt_eq]
      exact PySem.getD_mem (by rw [List.length_map, Array.length_toList]; omega)
    · obtain ⟨j, hj, rfl⟩ := mem_getD hy
      rw [List.length_map, Array.length_toList] at hj
      rw [← numAt_eq]
      exact h2 j (by omega)

theorem idx_ahead : ∀ (l : List Int) (n : Int) (m : Nat) (h : m < l.length), m < l.idxOf n → l[m] ≠ n
  | x :: r, n, m, h, k => by
    rw [List.idxOf_cons] at k
    by_cases e : (x == n) = true
    · rw [e] at k
      simp at k
    · have e' : (x == n) = false := by simpa using e
      rw [e'] at k
      cases m with
      | zero => exact fun z => e (by show (x == n) = true; exact beq_iff_eq.mpr z)
      | succ m =>
        have k' : m < r.idxOf n := by simpa using k
        exact idx_ahead r n m (by simpa using h) k'
/-- t.index(y), flat items, the first place -/
def rIndexT (K : PySem.W.Frag) : V → List V → Hp → VK → Prop := fun x xs H Q => ∃ (a : Addr) (ns : List Int) (n : Int), x = .ref a ∧ xs = [.int n] ∧ SqT K H a (ns.map V.int) ∧ n ∈ ns ∧ Q (.int (ns.idxOf n : Nat)) H
theorem mt_indexT : MtR X "tuple.index" (rIndexT X.K) := by
  intro pins s σ H x xs v us Q I rx rs h
  obtain ⟨p, ns, n, rfl, rfl, hq, hm, q⟩ := h
  cases rx
  obtain ⟨u, rfl, t, rfl⟩ := vals1 rs
  obtain ⟨its, r, pl, hz⟩ := I.tuple hq
  obtain ⟨⟨cls, dd, dt, sl⟩, ho, hc, c, hd⟩ := pl
  simp only at hc hd
  subst hc
  subst hd
  have len : its.length = ns.length := by rw [← r.length, List.length_map]
  have hj : ns.idxOf n < its.toArray.size := by
    rw [List.size_toArray, len]
    exact List.idxOf_lt_length_iff.mpr hm
  have item : ∀ (m : Nat) (h1 : m < its.toArray.size) (h2 : m < ns.length), ∃ t', its.toArray[m] = Value.int ns[m] t' := fun m h1 h2 => by
    obtain ⟨w', e1, t', e2⟩ := r.get (i := m) (x := .int ns[m]) (by simp [h2])
    refine ⟨t', ?_⟩
    have e3 := (List.getElem?_eq_some_iff.mp e1).2
    rw [← e2, ← e3]
    simp
  have hf : (ns.map V.int).all flatV = true := by
    rw [List.all_map]
    exact List.all_eq_true.mpr fun _ _ => rfl
  refine call_meets PySem.F.slot_tuple_index ⟨_, ho, rfl⟩ PySem.F.entry_tuple_index (PySem.F.args_tuple_index_2 _ _) (TI.tuple_indexAt p its.toArray c dd sl (.int n t) (eqU (.int n)) (ns.idxOf n) hj ?_ ?_)
    ⟨ho, fun y hy => mem_eqAt (x := .int n) ⟨t, rfl⟩ rfl r hf y (by simpa using hy), ⟨.int (ns.idxOf n : Nat), H, I.tok _, ⟨_, rfl⟩, q⟩⟩
  · obtain ⟨t', e⟩ := item _ hj (List.idxOf_lt_length_iff.mpr hm)
    rw [e]
    show eqU (.int n) (Value.int _ t') = true
    rw [List.getElem_idxOf]
    show (n == n) = true
    exact beq_self_eq_true n
  · intro m h1 h2
    have h3 : m < ns.length := by
      rw [← len, ← List.size_toArray]
      exact h1
    obtain ⟨t', e⟩ := item m h1 h3
    rw [e]
    have k := idx_ahead ns n m h3 h2
    show (ns[m] == n) = false
    exact beq_eq_false_iff_ne.mpr k
/-- f(k = v, ..): keywords alone -/
theorem pe_callK0 {CX : CXT} {k : Nat} {f : Addr} {fd : FuncData} {ps ks : List Str} {sp : Sp} {E : XK} {x : Str} {p pos : Pos} {kws : List Keyword} {tk : TA} {g : List Value → List Value → List Value} {gV : List V → List V → List V}
    (F : FnOk X.prog X.w X.K X.mg X.base CX k f fd ps sp) (hr : Room k X.A) (hg : Gl X x) (hm : X.mg x = some (.ref f)) (hk : PySem.W.keepIn X.K (.ref f) = true) (hb : KBinds X.K fd ps ks g gV) (hx : Passes CX X E) (hkw : PK X kws tk)
    (hall : (backToKw pos (keywordEach kws X.env)).all (·.1.isSome) = true := by rfl) (hks : (backToKw pos (keywordEach kws X.env)).filterMap (·.1) = ks := by rfl) (hdb : (x == ("__debug__" : Str)) = false := by decide)
    (hpl : ((backTo pos (starEach [] X.env)).any (·.1) || (backToKw pos (keywordEach kws X.env)).any (·.1.isNone)) = false := by rfl) : PE X (.Call (.Name x p) [] kws pos) (tCallK sp gV E tNil tk) := by
  refine ⟨fun pins s σ H Q I h => wpAny_Call_Name_kw (ld_glob I hg hm ?_ hdb)⟩
  refine PySem.W.callWith_KW0 (h₀ := X.base) I.ok.mod.kin hk hall (thn (hkw.run pos pins s σ H _ I h) fun ws s1 ⟨zs, H1, I1, rz, q1⟩ => ⟨I1.kIn, ?_⟩) hpl
  rw [hks]
  exact run_fnk F hr hb hx I1 .nil rz q1
/-- a method's call within a comprehension: the written part by its own name -/
theorem pe_bmK {K : PySem.W.Frag} {e : Expr} {T : String} {r : V → List V → Hp → VK → Prop} {to : TE} {t : TA} (hK : X.K = K) (h : PE X e (tBM X.K T r to t)) : PE X e (tBM K T r to t) := by
  subst hK
  exact h
/-! ### tuples without a dict, and their methods -/
/-- a tuple at a whose object is known to have no dict -/
def FzT (H : Hp) (a : Addr) (xs : List V) : Prop := ∃ o : Obj, H a = some (.frz o (.tup xs)) ∧ o.dict = none
theorem FzT.sq {K : PySem.W.Frag} {H : Hp} {a : Addr} {xs : List V} (h : FzT H a xs) : SqT K H a xs := by
  obtain ⟨o, h1, _⟩ := h
  exact .inl (.inr ⟨o, h1⟩)
/-- (a, b, ..), its object known -/
def tTupF (t : TA) : TE := fun σ H Q => t σ H fun xs H1 => xs.length ≤ sizeLine ∧ ∀ (p : Addr) (o : Obj), H1 p = none → o.dict = none → Q (.ref p) (upd H1 p (.frz o (.tup xs)))
theorem pe_tupF {es : List Expr} {t : TA} {k : Nat} {pos : Pos} (h : PA X es t) : PE X (.Tuple es k pos) (tTupF t) := by
  refine ⟨fun pins s σ H Q I hq => wpAny_Tuple_spliced (thn (h.run pos pins s σ H _ I hq) fun us s1 ⟨xs, H1, I1, r, z, q⟩ => ⟨by rw [← r.length]; exact z, ?_⟩)⟩
  refine ⟨.ref s1.heap.objs.size, _, I1.laid (t' := s1.toks) (fun b u e => Heap.get?_push_of_some _ e) (Nat.le_refl _) ?_, rfl, q _ { cls := .type "tuple", data := .seq us.toArray } (I1.hok.fresh (Nat.le_refl _)) rfl⟩
  exact ⟨Heap.get?_push_size _ rfl, z, us, r, _, Heap.get?_push_size _ rfl, rfl, _, rfl⟩
/-- tuple(l) of a list, its object known -/
theorem call_tupleF : CallR X (.type "tuple") (fun xs H Q => ∃ p ys, xs = [.ref p] ∧ SqL X.K H p ys ∧ ∀ (l : Addr) (o : Obj), H l = none → o.dict = none → Q (.ref l) (upd H l (.frz o (.tup ys)))) := by
  intro pins s σ H xs us Q I r h
  obtain ⟨p, ys, rfl, hq, q⟩ := h
  obtain ⟨u, rfl, rx⟩ := vals1 r
  cases rx
  obtain ⟨its, rv, pl, hz⟩ := I.list hq
  have len := rv.length
  refine call_tuple_list pl.isList (fun h1 kp => ?_) (by simp only [List.size_toArray] <;> omega)
  have I1 : Inv X pins σ H { s with heap := h1 } := I.kept (t' := s.toks) kp
  refine ⟨.ref h1.objs.size, _, I1.laid (o := .frz { cls := .type "tuple", data := .seq its.toArray } (.tup ys)) (t' := s.toks) (fun b o e => Heap.get?_push_of_some _ e) (Nat.le_refl _) ?_, rfl, q _ _ (I1.hok.fresh (Nat.le_refl _)) rfl⟩
  exact ⟨Heap.get?_push_size _ rfl, hz, its, rv, IsTup.new _ _⟩
/-- t.m(e, ..) of such a tuple -/
def tBMT (r : V → List V → Hp → VK → Prop) (to : TE) (t : TA) : TE := fun σ H Q => to σ H fun x H1 => (∃ a xs, x = .ref a ∧ FzT H1 a xs) ∧ t σ H1 fun vs H2 => r x vs H2 Q
theorem pe_bmT {r : V → List V → Hp → VK → Prop} {name : Str} {id : String} {o e : Expr} {es : List Expr} {to : TE} {t : TA} {apos cpos : Pos} (slot : Slot "tuple" name id) (hty : typeOf (.builtin id) = pure (.type "method_descriptor")) (hm : MtR X id r) (ho : PE X o to) (ha : PA X (e :: es) t)
    (hbase : attributeBase o name X.env (eval o X.env) = eval o X.env := by rfl)
    (hfew : ((backTo cpos (starEach (e :: es) X.env)).all (fun x => !x.1) && (backToKw cpos (keywordEach [] X.env)).all (fun x => x.1.isSome) && decide ((e :: es).length + ([] : List Keyword).length + (if ([] : List Keyword).isEmpty then 0 else 1) < 30)) = true := by rfl)
    (hline : (apos.endLine == cpos.line) = true := by rfl) (hs : starEach (e :: es) X.env = (false, eval e X.env) :: starEach es X.env := by rfl) (hplain : (backTo cpos (starEach es X.env)).any (·.1) = false := by rfl) :
    PE X (.Call (.Attribute o name apos) (e :: es) [] cpos) (tBMT r to t) := by
  refine ⟨fun pins s σ H Q I h => wpAny_Call_method_late hbase hfew hline rfl (thn (ho.run pins s σ H _ I h) fun v s1 ⟨x, H1, I1, r1, ⟨a, xs, ex, ob, e1, e2⟩, q1⟩ => ?_)⟩
  subst ex
  obtain rfl : v = Value.ref a := r1
  obtain ⟨g1, _, its, rv, ob', g2, g3, _⟩ := I1.hok a _ e1
  obtain rfl : ob = ob' := Option.some.inj (g1.symm.trans g2)
  have hA := ha.run cpos pins s1 σ H1 _ I1 q1
  refine ⟨"tuple", id, PySem.F.plainAttrs_tuple, slot, hty, ⟨ob, g1, g3⟩, fun b eb => ?_, ?_⟩
  · cases eb
    exact ⟨ob, g1, e2⟩
  · rw [hs] at hA ⊢
    refine Calls.callWith_builtin ?_ (Calls.evalArgs_plain (thn hA fun us s2 ⟨vs, H2, I2, r2, q2⟩ => hm pins s2 σ H2 (.ref a) vs _ us Q I2 rfl r2 q2))
    show (false || (backTo cpos (starEach es X.env)).any (·.1)) = false
    rw [hplain]
    rfl
/-- a power of a great number -/
def CPowW (i j : Int) : Prop := 0 ≤ j ∧ j ≤ 1000 ∧ i.natAbs < 2 ^ 1000
theorem op_powW : OpR X (binaryOp .Pow) (rI CPowW fun i j => .int (i ^ j.toNat)) := opI fun i j _ _ _ _ _ hc q => pow_int hc.1 (by
  obtain ⟨h1, h2, h3⟩ := hc
  have hb : Builtin.Int.intBits i ≤ 1001 := by
    unfold Builtin.Int.intBits
    split
    · omega
    · by_cases z : i.natAbs = 0
      · rw [z]
        decide
      · have := (Nat.log2_lt z).mpr h3
        omega
  have : (Builtin.Int.intBits i : Int) * j ≤ 1001 * 1000 := Int.mul_le_mul (by omega) h2 h1 (by omega)
  have e : (2 : Int) ^ 27 = 134217728 := by decide
  rw [e]
  omega) q
end
end GL

set_option Elab.async false
set_option linter.all false
set_option maxRecDepth 100000
set_option maxHeartbeats 4000000
/-! the law's own drawing: box, take, of -/
namespace M01
open PySem PySem.Spec PyProof.Rows L2 GL
def topS (i : Nat) : Stmt := PySem.Challenge.pw_sourceback_k01_names_of_any_value.main.body.getD i (.Pass ⟨0, 0, 0, 0⟩)
abbrev sIsWord : Stmt := topS 4
abbrev sIsName : Stmt := topS 5
abbrev sBox : Stmt := topS 7
abbrev sTake : Stmt := topS 8
abbrev sOf : Stmt := topS 9
abbrev sAny : Stmt := topS 10
abbrev sLName : Stmt := topS 11
abbrev sWords : Stmt := topS 12
abbrev sRight : Stmt := topS 13
abbrev sLaw : Stmt := topS 14
theorem scB : FnScope ["_law_script", "_law_k", "_law_digits", "_law_own"] ["_law_script", "_law_k"] (defScope sBox) := ⟨rfl, rfl, rfl, by decide +kernel, rfl, by decide +kernel, by decide +kernel⟩
theorem scT : FnScope ["_law_box_here", "_law_many", "_law_digit", "_law_mixed"] ["_law_box_here", "_law_many"] (defScope sTake) := ⟨rfl, rfl, rfl, by decide +kernel, rfl, by decide +kernel, by decide +kernel⟩
theorem scO : FnScope ["_law_box_here", "_law_some"] ["_law_box_here", "_law_some"] (defScope sOf) := ⟨rfl, rfl, rfl, by decide +kernel, rfl, by decide +kernel, by decide +kernel⟩

/-- the words that are no names -/
def kw : List Str := ["\x69mport", "template", "list", "document", "let", "new", "for", "in", "where", "give", "if", "then", "else"]
def kwV : List V := kw.map V.str
structure Bl (K : PySem.W.Frag) (mg : Str → Option Value) : Prop where
  len : mg "len" = none
  abs : mg "abs" = none
  int : mg "int" = none
  max : mg "max" = none
  min : mg "min" = none
  range : mg "range" = none
  list : mg "list" = none
  repr : mg "repr" = none
  all : mg "all" = none
  isinstance : mg "isinstance" = none
  str : mg "str" = none
  gL : ∃ t, mg "LETTERS" = some (.str "abcdefghijklmnopqrstuvwxyz" t)
  gM : ∃ t, mg "MOST_LETTERS" = some (.int 12 t)
  gK : ∃ a, mg "KEYWORDS" = some (.ref a) ∧ ∀ H, SqT K H a kwV
/-- a box at b, of which at most n mixed numbers were drawn -/
def Box (H : Hp) (b : Addr) (n : Nat) : Prop := ∃ o m c : Int, H b = some (.lst [.int o, .int m, .int c]) ∧ 0 ≤ o ∧ 0 ≤ m ∧ m < 2 ^ 62 ∧ 0 ≤ c ∧ c ≤ n
theorem Box.mono {H : Hp} {b : Addr} {n k : Nat} (h : Box H b n) (e : n ≤ k) : Box H b k := by
  obtain ⟨o, m, c, h1, h2, h3, h4, h5, h6⟩ := h
  exact ⟨o, m, c, h1, h2, h3, h4, h5, by omega⟩

/-- an expression in two ways, its value by what is known of it -/
theorem if_any {t : TT} {a b : TE} {σ : L2.St} {H : Hp} {Q : VK} {R : V → Prop} (h : ∀ Q' : VK, (∀ v, R v → Q' v H) → tIf t a b σ H Q') (q : ∀ v, R v → Q v H) : tIf t a b σ H Q := h Q q
section
variable {P : Program} {w : World} {K : PySem.W.Frag} {mg : Str → Option Value} {base : Heap}

def spTake : Sp := fun vs H Q _ => ∃ (b : Addr) (many : Int) (n : Nat), vs = [.ref b, .int many] ∧ Box H b n ∧ n < 1000000 ∧ 0 < many ∧ many < 1000000 ∧
  ∀ (r : Int) (u : HO), 0 ≤ r → r < many → Box (upd H b u) b (n + 1) → Q (.int r) (upd H b u)
theorem ok_take {f : Addr} {fd : FuncData} {k : Nat} (F : Fun K "_law_take" "_law_take" sTake f fd) : FnOk P w K mg base CX0 (k + 1) f fd ["_law_box_here", "_law_many"] spTake := by
  refine F.ok scT (fun vs H Q E h => ?_) (fun cdv A outer s H vs Q E hr h => ?_)
  · obtain ⟨b, many, n, rfl, _⟩ := h
    rfl
  · obtain ⟨b, many, n, rfl, ⟨o, m, c, hb, ho, hm, hm2, hc, hcn⟩, hn, h0, h1, q⟩ := h
    refine ⟨_, (pss_cons (ps_if (pt_cmpR op_gt (pe_ix ix_list (pv 0) pe_int (fun _ _ => rfl)) pe_int (nomark _))
        (pss_cons (ps_set (i := 2) scT.nd rfl (Or.inl rfl) (pe_op op_mod (pe_ix ix_list (pv 0) pe_int (fun _ _ => rfl)) (pv 1)))
        (pss_cons (ps_asg (pe_op op_fdivW (pe_ix ix_list (pv 0) pe_int (fun _ _ => rfl)) (pv 1)) (pg_sub (pv 0) pe_int set_list))
        (pss_one (ps_ret (pv 2)))))
        pss_nil)
      (pss_cons (ps_asg (pe_op op_add (pe_ix ix_list (pv 0) pe_int (fun _ _ => rfl)) pe_int) (pg_sub (pv 0) pe_int set_list))
      (pss_cons (ps_set (i := 3) scT.nd rfl (Or.inl rfl) (pe_op op_mod (pe_op op_mul (pe_op op_add (pe_op op_add (pe_ix ix_list (pv 0) pe_int (fun _ _ => rfl)) (pe_op op_mul (pe_op op_mul pe_int (pe_ix ix_list (pv 0) pe_int (fun _ _ => rfl))) (pe_ix ix_list (pv 0) pe_int (fun _ _ => rfl)))) pe_int) pe_int) pe_int))
      (pss_cons (ps_set (i := 3) scT.nd rfl (Or.inl rfl) (pe_op op_mod (pe_op op_mul (pv 3) (pe_op op_add (pe_op op_mod (pv 3) pe_int) (pe_op op_mul pe_int (pe_ix ix_list (pv 0) pe_int (fun _ _ => rfl))))) pe_int))
      (pss_one (ps_ret (pe_op op_mod (pe_op op_add (pe_op op_fdiv (pv 3) pe_int) (pe_op op_fdiv (pv 3) pe_int)) (pv 1)))))))), ?_⟩
    have hL : SqL K H b [.int o, .int m, .int c] := SqL.of hb
    refine ⟨.ref b, rfl, b, _, 0, .int o, rfl, rfl, hL, rfl, o, 0, rfl, rfl, _, rfl, ite2 (fun e => ?_) (fun e => ?_)⟩
    · have e : 0 < o := of_decide_eq_true e
      refine ⟨.ref b, rfl, b, _, 0, .int o, rfl, rfl, hL, rfl, .int many, rfl, o, many, rfl, rfl, h0, ?_⟩
      refine ⟨.ref b, rfl, b, _, 0, .int o, rfl, rfl, hL, rfl, .int many, rfl, o, many, rfl, rfl, wide_div (b := 20) h0 (by omega) (by decide) (by decide), ?_⟩
      refine ⟨.ref b, rfl, b, _, 0, 0, rfl, rfl, hb, rfl, ?_⟩
      refine ⟨.int (o % many), rfl, ?_⟩
      refine q (o % many) _ (Int.emod_nonneg _ (by omega)) (Int.emod_lt_of_pos _ h0) ⟨o / many, m, c, upd_same, Int.ediv_nonneg ho (by omega), hm, hm2, hc, by omega⟩
    · refine ⟨.ref b, rfl, b, _, 2, .int c, rfl, rfl, hL, rfl, c, 1, rfl, rfl, ?_⟩
      refine ⟨.ref b, rfl, b, _, 2, 2, rfl, rfl, hb, rfl, ?_⟩
      have hb2 : (upd H b (.lst [.int o, .int m, .int (c + 1)])) b = some (.lst [.int o, .int m, .int (c + 1)]) := upd_same
      have hL2 : SqL K (upd H b (.lst [.int o, .int m, .int (c + 1)])) b [.int o, .int m, .int (c + 1)] := SqL.of hb2
      refine ⟨.ref b, rfl, b, _, 1, .int m, rfl, rfl, hL2, rfl, .ref b, rfl, b, _, 2, .int (c + 1), rfl, rfl, hL2, rfl, 65551, c + 1, rfl, rfl, .inl ⟨by decide, by decide⟩, .ref b, rfl, b, _, 2, .int (c + 1), rfl, rfl, hL2, rfl,
        65551 * (c + 1), c + 1, rfl, rfl, .inr ⟨by omega, by omega⟩, m, 65551 * (c + 1) * (c + 1), rfl, rfl, _, 29, rfl, rfl, _, 48281, rfl, rfl, .inr ⟨by decide, by decide⟩, _, 2305843009213693921, rfl, rfl, by show (0 : Int) < _; decide, ?_⟩
      dsimp only
      generalize hx : (m + 65551 * (c + 1) * (c + 1) + 29) * 48281 % 2305843009213693921 = x
      have x0 : 0 ≤ x := by rw [← hx]; exact Int.emod_nonneg _ (by decide)
      have x1 : x < 2305843009213693921 := by rw [← hx]; exact Int.emod_lt_of_pos _ (by decide)
      refine ⟨.int x, rfl, .int x, rfl, x, 1000039, rfl, rfl, by show (0 : Int) < _; decide, .ref b, rfl, b, _, 2, .int (c + 1), rfl, rfl, hL2, rfl, 99989, c + 1, rfl, rfl, .inl ⟨by decide, by decide⟩, _, _, rfl, rfl, x, _, rfl, rfl, .inl ⟨by omega, by omega⟩,
        _, 2305843009213693907, rfl, rfl, by show (0 : Int) < _; decide, ?_⟩
      dsimp only
      generalize hy : x * (x % 1000039 + 99989 * (c + 1)) % 2305843009213693907 = y
      have y0 : 0 ≤ y := by rw [← hy]; exact Int.emod_nonneg _ (by decide)
      refine ⟨.int y, rfl, y, 109, rfl, rfl, ⟨by decide, by decide⟩, .int y, rfl, y, 1000081, rfl, rfl, ⟨by decide, by decide⟩, _, _, rfl, rfl, .int many, rfl, _, many, rfl, rfl, h0, ?_⟩
      exact q _ _ (Int.emod_nonneg _ (by omega)) (Int.emod_lt_of_pos _ h0) ⟨o, m, c + 1, hb2, ho, hm, hm2, by omega, by omega⟩

def spBox (K : PySem.W.Frag) : Sp := fun vs H Q _ => ∃ (a : Addr) (ns : List Int) (k : Nat), vs = [.ref a, .int k] ∧ SqL K H a (ns.map V.int) ∧ k < 1000 ∧
  ∀ (p : Addr) (u : HO), H p = none → Box (upd H p u) p 0 → Q (.ref p) (upd H p u)
theorem ok_box {f : Addr} {fd : FuncData} {k : Nat} (F : Fun K "_law_box" "_law_box" sBox f fd) (T : Bl K mg) : FnOk P w K mg base CX0 (k + 1) f fd ["_law_script", "_law_k"] (spBox K) := by
  refine F.ok scB (fun vs H Q E h => ?_) (fun cdv A outer s H vs Q E hr h => ?_)
  · obtain ⟨a, ns, k, rfl, _⟩ := h
    rfl
  · obtain ⟨a, ns, k, rfl, hS, hk, q⟩ := h
    refine ⟨_, (pss_cons (ps_set (i := 2) scB.nd rfl (Or.inl rfl) (pe_ifExp (pt_cmpR op_lt (pv 1) (pe_callB call_len_seq (by rfl) T.len (by decide +kernel) (pa_cons (pv 0) pa_nil)) (nomark _)) (pe_ix ix_list (pv 0) (pv 1) (fun _ _ => rfl)) (pe_op op_add (pe_op op_mul pe_int (pv 1)) pe_int)))
      (pss_cons (ps_set (i := 3) scB.nd rfl (Or.inl rfl) (pe_op op_mul (pe_op op_mod (pe_callB call_abs (by rfl) T.abs (by decide +kernel) (pa_cons (pv 2) pa_nil)) (pe_op op_powW (pe_op op_pow pe_int pe_int) pe_int)) (pe_callTy call_int1 (by rfl) T.int (by decide +kernel) (pa_cons (pe_cmpR op_ge (pe_callB call_abs (by rfl) T.abs (by decide +kernel) (pa_cons (pv 2) pa_nil)) (pe_op op_pow pe_int pe_int) (nomark _)) pa_nil))))
      (pss_one (ps_ret (pe_lst (pa_cons (pv 3) (pa_cons (pe_op op_mod (pe_op op_add (pe_op op_add (pe_op op_mul (pe_op op_mod (pv 2) pe_int) pe_int) (pe_op op_mul (pe_op op_mul pe_int (pv 1)) (pv 1))) pe_int) pe_int) (pa_cons pe_int pa_nil)))))))), ?_⟩
    refine if_any (R := fun v => ∃ d : Int, v = .int d) (fun Q' q' => ?_) (fun v hv => ?_)
    · refine ⟨.int k, rfl, .ref a, rfl, a, _, rfl, .inl hS, (k : Int), _, rfl, rfl, _, rfl, ite2 (fun e => ?_) (fun e => ?_)⟩
      · have e : (k : Int) < ((ns.map V.int).length : Int) := of_decide_eq_true e
        have hl : k < ns.length := by
          rw [List.length_map] at e
          omega
        exact ⟨.ref a, rfl, .int k, rfl, a, _, (k : Int), .int ns[k], rfl, rfl, hS, atI_nat (by simp [hl]), q' _ ⟨_, rfl⟩⟩
      · exact ⟨.int k, rfl, 37, (k : Int), rfl, rfl, .inl ⟨by decide, by decide⟩, 37 * (k : Int), 5, rfl, rfl, q' _ ⟨_, rfl⟩⟩
    · obtain ⟨d, rfl⟩ := hv
      refine ⟨.int d, rfl, d, rfl, 10, 60, rfl, rfl, ⟨by decide, by decide, by decide⟩, 10 ^ 60, 5, rfl, rfl, ⟨by decide, by decide, by decide +kernel⟩, _, (10 ^ 60) ^ 5, rfl, rfl, by show (0 : Int) < _; decide +kernel, .int d, rfl, d, rfl, 10, 18, rfl, rfl, ⟨by decide, by decide, by decide⟩, _, 10 ^ 18, rfl, rfl, .inr ⟨_, rfl, ?_⟩⟩
      generalize (if d < 0 then -d else d) = e
      have hb : ∀ k : Bool, CMul (e % (10 ^ 60) ^ 5) (if k = true then 1 else 0) := fun k => .inr (by cases k <;> exact ⟨by decide, by decide⟩)
      refine ⟨_, _, rfl, rfl, hb _, ?_⟩
      dsimp only
      have ho : ∀ k : Bool, 0 ≤ e % (10 ^ 60) ^ 5 * (if k = true then 1 else 0) := fun k => Int.mul_nonneg (Int.emod_nonneg _ (by decide +kernel)) (by cases k <;> decide)
      have h2 := ho (decide (10 ^ 18 ≤ e))
      generalize (e % (10 ^ 60) ^ 5 * (if decide (10 ^ 18 ≤ e) = true then 1 else 0)) = o at h2
      refine ⟨.int o, rfl, .int d, rfl, d, 2305843009213693951, rfl, rfl, by show (0 : Int) < _; decide, _, 70079, rfl, rfl, .inr ⟨by decide, by decide⟩, .int k, rfl, 4799, (k : Int), rfl, rfl, .inl ⟨by decide, by decide⟩, .int k, rfl, _, (k : Int), rfl, rfl, .inr ⟨by omega, by omega⟩,
        _, _, rfl, rfl, _, 71, rfl, rfl, _, 2305843009213693921, rfl, rfl, by show (0 : Int) < _; decide, by show 3 ≤ sizeLine; decide, fun p hp => ?_⟩
      dsimp only
      exact q p _ hp ⟨o, _, 0, upd_same, h2, Int.emod_nonneg _ (by decide), Int.lt_trans (Int.emod_lt_of_pos _ (by decide)) (by decide), by decide, by decide⟩

def spOf : Sp := fun vs H Q _ => ∃ (b l : Addr) (xs : List V) (n : Nat), vs = [.ref b, .ref l] ∧ H l = some (.lst xs) ∧ l ≠ b ∧ Box H b n ∧ n < 1000000 ∧ 0 < xs.length ∧ xs.length < 1000000 ∧
  ∀ (x : V) (u : HO), x ∈ xs → Box (upd H b u) b (n + 1) → Q x (upd H b u)
theorem ok_of {f : Addr} {fd : FuncData} {k : Nat} (F : Fun K "_law_of" "_law_of" sOf f fd) (T : Bl K mg) (d_take : DnG P w K mg base "_law_take" 1 ["_law_box_here", "_law_many"] spTake) : FnG P w K mg base CX0 (k + 2) f fd ["_law_box_here", "_law_some"] spOf := by
  refine okG0 F scO (fun vs H Q E h => ?_) (fun cdv A outer s H vs Q E hr hG h => ?_)
  · obtain ⟨b, l, xs, n, rfl, _⟩ := h
    rfl
  · obtain ⟨b, l, xs, n, rfl, hl, ne, hB, hn, h0, h1, q⟩ := h
    refine ⟨_, (pss_one (ps_ret (pe_ix ix_list (pv 1) (pe_callG d_take.ok (hr.mono (Nat.le_add_left 1 k)) hG (by rfl) d_take.g d_take.kp d_take.b .nil pass0 (pa_cons (pv 0) (pa_cons (pe_callB call_len_seq (by rfl) T.len (by decide +kernel) (pa_cons (pv 1) pa_nil)) pa_nil))) (fun _ _ => rfl)))), ?_⟩
    refine ⟨.ref l, rfl, .ref b, rfl, .ref l, rfl, l, xs, rfl, .inl (SqL.of hl), b, xs.length, n, rfl, hB, hn, by omega, by omega, fun r u r0 r1 hB2 => ?_⟩
    obtain ⟨j, rfl⟩ : ∃ j : Nat, r = j := ⟨r.toNat, by omega⟩
    have hj : j < xs.length := by omega
    exact ⟨l, xs, j, xs[j], rfl, rfl, SqL.of (by rw [upd_ne ne]; exact hl), atI_nat (List.getElem?_eq_getElem hj), q _ u (List.getElem_mem hj) hB2⟩
end
/-- all but b is as it was -/
def Off (b : Addr) (H H' : Hp) : Prop := ∀ a o, a ≠ b → H a = some o → H' a = some o
theorem Off.refl (b : Addr) (H : Hp) : Off b H H := fun _ _ _ h => h
theorem Off.trans {b : Addr} {H H1 H2 : Hp} (x : Off b H H1) (y : Off b H1 H2) : Off b H H2 := fun a o n h => y a o n (x a o n h)
theorem Off.box {b : Addr} {H : Hp} {u : HO} : Off b H (upd H b u) := fun a o n h => by
  rw [upd_ne n]
  exact h
theorem Off.new {b p : Addr} {H : Hp} {u : HO} (hp : H p = none) : Off b H (upd H p u) := fun a o _ h => by
  rw [upd_ne (ne_of_none h hp)]
  exact h
/-- what H did not know may change -/
theorem Off.put {b p : Addr} {H H' : Hp} {u : HO} (x : Off b H H') (hp : H p = none) : Off b H (upd H' p u) := fun a o n h => by
  rw [upd_ne (ne_of_none h hp)]
  exact x a o n h
theorem Box.new {H : Hp} {b p : Addr} {n : Nat} {u : HO} (h : Box H b n) (ne : p ≠ b) : Box (upd H p u) b n := by
  obtain ⟨o, m, c, h1, h2⟩ := h
  exact ⟨o, m, c, by rw [upd_ne ne.symm]; exact h1, h2⟩
theorem Box.ne {H : Hp} {b p : Addr} {n : Nat} (h : Box H b n) (hp : H p = none) : p ≠ b := fun e => by
  obtain ⟨o, m, c, h1, h2⟩ := h
  rw [← e, hp] at h1
  cases h1
/-! ### lists of ints as data -/
abbrev iVs (ns : List Int) : List V := ns.map V.int
theorem erase_map : ∀ (ns : List Int) (j : Nat), (iVs ns).eraseIdx j = iVs (ns.eraseIdx j)
  | [], _ => rfl
  | _ :: _, 0 => rfl
  | n :: r, j + 1 => by
    show V.int n :: (iVs r).eraseIdx j = V.int n :: iVs (r.eraseIdx j)
    rw [erase_map r j]
theorem erase_perm : ∀ (ns : List Int) (j : Nat) (h : j < ns.length), (ns[j] :: ns.eraseIdx j).Perm ns
  | n :: r, 0, _ => List.Perm.refl _
  | n :: r, j + 1, h => by
    have hj : j < r.length := by simpa using h
    have ih := erase_perm r j hj
    exact (List.Perm.swap n r[j] _).trans (ih.cons n)
theorem dpI (K : PySem.W.Frag) (H : Hp) : ∀ ns : List Int, DpAll K H (iVs ns) (ns.map PyData.int)
  | [] => .nil
  | n :: r => .cons (.int n) (dpI K H r)
theorem layI : ∀ ns : List Int, PyData.canLayAll0 (ns.map PyData.int) = true
  | [] => rfl
  | n :: r => by
    rw [List.map_cons, PyData.canLayAll0, layI r]
    rfl
theorem depI : ∀ ns : List Int, PyData.depthAll (ns.map PyData.int) ≤ 1
  | [] => by decide
  | n :: r => by
    have := depI r
    rw [List.map_cons, PyData.depthAll]
    simp [PyData.depth]
    omega
theorem shI (ns : List Int) : SeqAt.shaped (.list (ns.map PyData.int)) = true := by
  unfold SeqAt.shaped
  have h1 : PyData.canLay0 (.list (ns.map PyData.int)) = true := layI ns
  have h2 := depI ns
  rw [h1]
  simp [PyData.depth]
  omega
theorem eqI : ∀ ns ms : List Int, PyData.eqvAll (ns.map PyData.int) (ms.map PyData.int) = decide (ns = ms)
  | [], [] => rfl
  | [], _ :: _ => rfl
  | _ :: _, [] => rfl
  | n :: r, m :: t => by
    rw [List.map_cons, List.map_cons, PyData.eqvAll, eqI r t]
    by_cases e : n = m
    · subst e
      simp [PyData.eqv]
    · have : ¬ (n :: r = m :: t) := fun z => e (List.cons.inj z).1
      simp [PyData.eqv, e]
theorem eqL (ns ms : List Int) : PyData.eqv (.list (ns.map PyData.int)) (.list (ms.map PyData.int)) = decide (ns = ms) := eqI ns ms

end M01

set_option Elab.async false
set_option linter.all false
set_option maxRecDepth 100000
set_option maxHeartbeats 4000000
/-! is_word, is_name, the law's own look at names -/
namespace M01
open PySem PySem.Spec PyProof.Rows L2 GL
theorem scW : FnScope ["value", "letter"] ["value"] (defScope sIsWord) := ⟨rfl, rfl, rfl, by decide +kernel, rfl, by decide +kernel, by decide +kernel⟩
theorem scN : FnScope ["value"] ["value"] (defScope sIsName) := ⟨rfl, rfl, rfl, by decide +kernel, rfl, by decide +kernel, by decide +kernel⟩
theorem scI : FnScope ["_law_word", "_law_shut", "_law_letter"] ["_law_word"] (defScope sLName) := ⟨rfl, rfl, rfl, by decide +kernel, rfl, by decide +kernel, by decide +kernel⟩
theorem same_new {H : Hp} {p : Addr} {o : HO} (h : H p = none) : Same H (upd H p o) := fun b x e => by
  rw [upd_ne (ne_of_none e h)]
  exact e
theorem same_put {H H' : Hp} {p : Addr} {o : HO} (x : Same H H') (h : H p = none) : Same H (upd H' p o) := fun b y e => by
  rw [upd_ne (ne_of_none e h)]
  exact x b y e
abbrev letters : Str := "abcdefghijklmnopqrstuvwxyz"
/-- all signs are letters -/
def low (z : Str) : Bool := z.cps.toList.all fun c => decide (c ∈ letters.cps.toList)
def isName (z : Str) : Bool := low z && (decide (1 ≤ z.length) && decide (z.length ≤ 12) && !decide (z ∈ kw))
def nameV : V → Bool
  | .str z => isName z
  | _ => false
/-- a text, or something that is none -/
def AnyV (K : PySem.W.Frag) (H : Hp) (v : V) : Prop := (∃ z : Str, v = .str z ∧ z.length ≤ 1000) ∨ (nameV v = false ∧ ∃ t, TyX K H v t ∧ PySem.W.kitOne K t (.type "str") = some false)
theorem inS (z : Str) : ∀ l : List Str, inV (.str z) (l.map V.str) = decide (z ∈ l)
  | [] => rfl
  | y :: r => by
    have ih := inS z r
    unfold inV at ih ⊢
    rw [List.map_cons, List.any_cons, ih]
    show (y == z || decide (z ∈ r)) = _
    by_cases e : y = z
    · subst e
      simp
    · have e' : z ≠ y := fun q => e q.symm
      simp [e, e']
theorem flS (l : List Str) : (l.map V.str).all flatV = true := by
  rw [List.all_map]
  exact List.all_eq_true.mpr fun _ _ => rfl
theorem tyx_same {K : PySem.W.Frag} {H H' : Hp} {v : V} {t : Value} (e : Same H H') (h : TyX K H v t) : TyX K H' v t := by
  cases h with
  | base b =>
    cases b with
    | non => exact .base .non
    | bl x => exact .base (.bl x)
    | int i => exact .base (.int i)
    | str x => exact .base (.str x)
    | flt x => exact .base (.flt x)
    | lst h => exact .base (.lst (e _ _ h))
    | frz h => exact .base (.frz (e _ _ h))
    | tup h => exact .base (.tup (e _ _ h))
    | dK h => exact .base (.dK (e _ _ h))
    | dT h => exact .base (.dT (e _ _ h))
    | ins h c x y z u => exact .base (.ins (e _ _ h) c x y z u)
  | byt b => exact .byt b
  | set h => exact .set (e _ _ h)
  | kList h c => exact .kList h c
  | kTuple h c => exact .kTuple h c
  | kDict h c => exact .kDict h c
  | fTuple h => exact .fTuple (e _ _ h)
  | fDict h => exact .fDict (e _ _ h)
theorem AnyV.same {K : PySem.W.Frag} {H H' : Hp} {v : V} (e : Same H H') (h : AnyV K H v) : AnyV K H' v := by
  rcases h with h | ⟨h, t, ty, k⟩
  · exact .inl h
  · exact .inr ⟨h, t, tyx_same e ty, k⟩
theorem take_bl {l : List Bool} {i : Nat} {b : Bool} (h : l[i]? = some b) : l.take (i + 1) = l.take i ++ [b] := by
  rw [List.take_add_one, h]
  rfl
section
variable {P : Program} {w : World} {K : PySem.W.Frag} {mg : Str → Option Value} {base : Heap}
def spWord : Sp := fun vs H Q _ => ∃ z : Str, vs = [.str z] ∧ z.length ≤ 1000 ∧ ∀ H', Same H H' → Q (.bl (!decide (z = "") && low z)) H'
theorem ok_word {f : Addr} {fd : FuncData} {k : Nat} (F : Fun K "is_word" "is_word" sIsWord f fd) (T : Bl K mg) : FnG P w K mg base CX0 (k + 1) f fd ["value"] spWord := by
  obtain ⟨tL, gL⟩ := T.gL
  refine okG0 F scW (fun vs H Q E h => ?_) (fun cdv A outer s H vs Q E hr hG h => ?_)
  · obtain ⟨z, rfl, _⟩ := h
    rfl
  · obtain ⟨z, rfl, hz, q⟩ := h
    refine ⟨_, (pss_one (ps_ret (pe_and (pe_cmpR op_ne (pv 0) pe_str (nomark _)) (pe_one (pe_callB (cr_all rfl) (by rfl) T.all (by decide +kernel) (pa_cons (pe_lc (own := [("letter", 1)]) (g := gName 1) (by rfl) scW.nd (pi_str (pv 0)) (blkOk_by (own := [("letter", 1)]) (N := ["value", "letter"]) (sc := defScope sIsWord) (by decide +kernel)) (fun _ _ _ _ _ => (pg_name (i := 1) scW.nd rfl (Or.inl rfl))) (fun _ _ _ _ _ => pts_nil) (fun _ _ _ _ _ => (pe_cmpR op_in_sign (pv 1) (pe_glob (v := .str "abcdefghijklmnopqrstuvwxyz") (by rfl) gL ⟨_, rfl⟩) (by rfl)))) pa_nil)))))), ?_⟩
    refine ⟨.str z, rfl, rfl, _, rfl, ite2 (fun e => ?_) (fun e => ?_)⟩
    · refine ⟨.str z, rfl, z, rfl, fun D nD => ?_⟩
      refine lc_it (walk_str (z := z)) (fun i H2 => Same H H2 ∧ H2 D = some (.lst (((z.cps.toList.map fun c => decide (c ∈ letters.cps.toList)).take i).map V.bl))) ⟨same_new nD, upd_same⟩ (fun _ _ _ _ => trivial) (fun i x H2 H3 hi hP hY => ?_) (fun H2 hP => ?_)
      · obtain ⟨sm, hD⟩ := hP
        obtain ⟨rfl, c, hc, rfl⟩ := hY
        have hc' : (z.cps.toList.map fun c => decide (c ∈ letters.cps.toList))[i]? = some (decide (c ∈ letters.cps.toList)) := by
          rw [List.getElem?_map, Array.getElem?_toList, hc]
          rfl
        have hi' : i < z.length := hi
        refine ⟨rfl, .str ⟨#[c]⟩, rfl, c, _, rfl, rfl, _, hD, ?_, same_put sm nD, ?_⟩
        · rw [List.length_map, List.length_take]
          exact Nat.lt_of_le_of_lt (Nat.min_le_left _ _) (small1000 (by omega))
        · rw [upd_same, take_bl hc', List.map_append]
          rfl
      · obtain ⟨sm, hD⟩ := hP
        rw [List.take_of_length_le (by rw [List.length_map, Array.length_toList]; exact Nat.le_refl _)] at hD
        refine ⟨D, _, rfl, SqL.of hD, ?_⟩
        have e2 : (!decide (z = "") && low z) = (z.cps.toList.map fun c => decide (c ∈ letters.cps.toList)).all id := by
          have : (!decide (z = "")) = true := by
            have e := e
            simpa using e
          rw [this, Bool.true_and, List.all_map]
          rfl
        rw [← e2]
        exact q H2 sm
    · have e2 : (!decide (z = "") && low z) = false := by
        have : (!decide (z = "")) = false := by
          have e := e
          simpa using e
        rw [this, Bool.false_and]
      have := q H (Same.refl H)
      rw [e2] at this
      exact this

theorem isName_kw {z : Str} (h : low z = true) (hn : z ≠ "") : isName z = (decide ((z.length : Int) ≤ 12) && !decide (z ∈ kw)) := by
  have h1 : 1 ≤ z.length := by
    cases e : z.length with
    | zero =>
      exfalso
      apply hn
      obtain ⟨c⟩ := z
      have : c = #[] := Array.eq_empty_of_size_eq_zero e
      rw [this]
      rfl
    | succ n => omega
  unfold isName
  rw [h, decide_eq_true h1, Bool.true_and, Bool.true_and]
  congr 1
  by_cases e : z.length ≤ 12
  · rw [decide_eq_true e, decide_eq_true (by omega)]
  · rw [decide_eq_false e, decide_eq_false (by omega)]
def spName (K : PySem.W.Frag) : Sp := fun vs H Q _ => ∃ v : V, vs = [v] ∧ AnyV K H v ∧ ∀ H', Same H H' → Q (.bl (nameV v)) H'
theorem ok_name {f : Addr} {fd : FuncData} (F : Fun K "is_name" "is_name" sIsName f fd) (T : Bl K mg) (d_is_word : DnG P w K mg base "is_word" 1 ["value"] spWord) : FnG P w K mg base CX0 2 f fd ["value"] (spName K) := by
  obtain ⟨tM, gM⟩ := T.gM
  obtain ⟨aK, gK, hK⟩ := T.gK
  refine okG0 F scN (fun vs H Q E h => ?_) (fun cdv A outer s H vs Q E hr hG h => ?_)
  · obtain ⟨v, rfl, _⟩ := h
    rfl
  · obtain ⟨v, rfl, hv, q⟩ := h
    refine ⟨_, (pss_cons (ps_if (PW.pt (pw_or (pt_not (pt_val (pe_callB call_isi (by rfl) T.isinstance (by decide +kernel) (pa_cons (pv 0) (pa_cons (pe_bltn (v := .ty "str") (by rfl) T.str (by decide +kernel) rfl) pa_nil))))) (pw_or1 (pt_not (pt_val (pe_callG d_is_word.ok (hr.mono (by decide)) hG (by rfl) d_is_word.g d_is_word.kp d_is_word.b .nil pass0 (pa_cons (pv 0) pa_nil)))))))
        (pss_one (ps_ret pe_bl))
        pss_nil)
      (pss_one (ps_ret (pe_and (pe_cmpR op_le (pe_callB call_len_str (by rfl) T.len (by decide +kernel) (pa_cons (pv 0) pa_nil)) (pe_glob (v := .int 12) (by rfl) gM ⟨_, rfl⟩) (nomark _)) (pe_one (pe_cmpR (r := rIn K true) op_notIn_seq (pv 0) (pe_glob (v := .ref aK) (by rfl) gK rfl) (by rfl))))))), ?_⟩
    rcases hv with ⟨z, rfl, hz⟩ | ⟨hn, t, ty, kt⟩
    · refine ⟨.str z, rfl, .str z, .ty "str", _, _, true, rfl, .ty "str", .base (.str z), kit_ty (by decide +kernel), true, rfl, ?_⟩
      refine ⟨.str z, rfl, z, rfl, hz, fun H1 sm => ⟨_, rfl, ?_⟩⟩
      refine ite2 (fun e => ?_) (fun e => ?_)
      · have e1 : (!decide (z = "") && low z) = false := (Bool.not_eq_true' _).mp e
        have e2 : nameV (.str z) = false := by
          show isName z = false
          by_cases hl : low z = true
          · rw [hl, Bool.and_true] at e1
            have : z = "" := by simpa using e1
            subst this
            rfl
          · have : low z = false := by simpa using hl
            unfold isName
            rw [this, Bool.false_and]
        have := q H1 sm
        rw [e2] at this
        exact this
      · have e1 : (!decide (z = "") && low z) = true := by simpa using e
        obtain ⟨e3, e4⟩ := Bool.and_eq_true_iff.mp e1
        have e5 : z ≠ "" := by simpa using e3
        have e6 := isName_kw e4 e5
        refine ⟨.str z, rfl, z, rfl, Nat.le_of_lt (small1000 hz), _, 12, rfl, rfl, _, rfl, ite2 (fun g => ?_) (fun g => ?_)⟩
        · refine ⟨.str z, rfl, aK, kwV, rfl, .inr (hK _), rfl, flS kw, ?_⟩
          show Q (.bl (!inV (.str z) (kw.map V.str))) H1
          rw [inS]
          have e7 : nameV (.str z) = !decide (z ∈ kw) := by
            show isName z = _
            rw [e6, g, Bool.true_and]
          rw [← e7]
          exact q H1 sm
        · have g' : decide ((z.length : Int) ≤ 12) = false := by simpa using g
          have e7 : nameV (.str z) = false := by
            show isName z = _
            rw [e6, g', Bool.false_and]
          have := q H1 sm
          rw [e7] at this
          exact this
    · refine ⟨v, rfl, v, .ty "str", _, _, false, rfl, .ty "str", ty, kt, false, rfl, ?_⟩
      have := q H (Same.refl H)
      rw [hn] at this
      exact this
/-- the law's own look -/
theorem ok_lname {f : Addr} {fd : FuncData} {k : Nat} (F : Fun K "_law_is_name" "_law_is_name" sLName f fd) (T : Bl K mg) : FnG P w K mg base CX0 (k + 1) f fd ["_law_word"] (spName K) := by
  refine okG0 F scI (fun vs H Q E h => ?_) (fun cdv A outer s H vs Q E hr hG h => ?_)
  · obtain ⟨v, rfl, _⟩ := h
    rfl
  · obtain ⟨v, rfl, hv, q⟩ := h
    refine ⟨_, (pss_cons (ps_set (i := 1) scI.nd rfl (Or.inl rfl) (pe_split pe_str pe_str))
      (pss_cons (ps_if (PW.pt (pw_or (pt_not (pt_val (pe_callB call_isi (by rfl) T.isinstance (by decide +kernel) (pa_cons (pv 0) (pa_cons (pe_bltn (v := .ty "str") (by rfl) T.str (by decide +kernel) rfl) pa_nil))))) (pw_or (pt_not (pt_chain op_le op_le pe_int (pe_callB call_len_str (by rfl) T.len (by decide +kernel) (pa_cons (pv 0) pa_nil)) pe_int)) (pw_or1 (pt_cmpR (r := rIn K false) op_in_seq (pv 0) (pv 1) (by rfl))))))
        (pss_one (ps_ret pe_bl))
        pss_nil)
      (pss_one (ps_ret (pe_callB (cr_all rfl) (by rfl) T.all (by decide +kernel) (pa_cons (pe_lc (own := [("_law_letter", 2)]) (g := gName 2) (by rfl) scI.nd (pi_str (pv 0)) (blkOk_by (own := [("_law_letter", 2)]) (N := ["_law_word", "_law_shut", "_law_letter"]) (sc := defScope sLName) (by decide +kernel)) (fun _ _ _ _ _ => (pg_name (i := 2) scI.nd rfl (Or.inl rfl))) (fun _ _ _ _ _ => pts_nil) (fun _ _ _ _ _ => (pe_cmpR op_in_sign (pv 2) pe_str (by rfl)))) pa_nil)))))), ?_⟩
    have hsp : Txt.split "\x69mport template list document let new for in where give if then else" " " = kw := by decide +kernel
    refine ⟨⟨_, rfl⟩, _, _, rfl, rfl, rfl, by decide +kernel, ?_⟩
    rw [hsp]
    intro S nS
    rcases hv with ⟨z, rfl, hz⟩ | ⟨hn, t, ty, kt⟩
    · refine ⟨.str z, rfl, .str z, .ty "str", _, _, true, rfl, .ty "str", .base (.str z), kit_ty (by decide +kernel), true, rfl, ?_⟩
      have fin : ∀ H', Same H H' → ∀ b : Bool, isName z = b → Q (.bl b) H' := fun H' sm b e => e ▸ q H' sm
      have smS : Same H (upd H S (.lst (kw.map V.str))) := same_new nS
      have hz' : z.length ≤ sizeLine := Nat.le_of_lt (small1000 hz)
      refine ⟨.str z, rfl, z, rfl, hz', 1, _, rfl, rfl, _, rfl, ite2 (fun e1 => ?_) (fun e1 => ?_)⟩
      · refine ⟨_, 12, rfl, rfl, _, rfl, ?_⟩
        have n1 : 1 ≤ z.length := by
          have := of_decide_eq_true e1
          omega
        refine ite2 (fun e2 => ?_) (fun e2 => ?_)
        · have e3 : ¬ ((z.length : Int) ≤ 12) := of_decide_eq_false ((Bool.not_eq_true' _).mp e2)
          refine fin _ smS false ?_
          unfold isName
          rw [decide_eq_false (show ¬ z.length ≤ 12 by omega), Bool.and_false, Bool.false_and, Bool.and_false]
        · have e3 : z.length ≤ 12 := Classical.byContradiction fun g => e2 ((Bool.not_eq_true' _).mpr (decide_eq_false (by omega)))
          refine ⟨.str z, rfl, .ref S, rfl, S, _, rfl, .inl (SqL.of upd_same), rfl, flS kw, _, rfl, ?_⟩
          show if inV (.str z) (kw.map V.str) = true then _ else _
          rw [inS]
          refine ite2 (fun e4 => ?_) (fun e4 => ?_)
          · refine fin _ smS false ?_
            unfold isName
            rw [e4, Bool.not_true, Bool.and_false, Bool.and_false]
          · have e5 : decide (z ∈ kw) = false := by simpa using e4
            have e6 : isName z = low z := by
              unfold isName
              rw [decide_eq_true n1, decide_eq_true e3, e5]
              simp
            refine ⟨.str z, rfl, z, rfl, fun D nD => ?_⟩
            refine lc_it (walk_str (z := z)) (fun i H2 => Same (upd H S (.lst (kw.map V.str))) H2 ∧ H2 D = some (.lst (((z.cps.toList.map fun c => decide (c ∈ letters.cps.toList)).take i).map V.bl))) ⟨same_new nD, upd_same⟩ (fun _ _ _ _ => trivial) (fun i x H2 H3 hi hP hY => ?_) (fun H2 hP => ?_)
            · obtain ⟨sm, hD⟩ := hP
              obtain ⟨rfl, c, hc, rfl⟩ := hY
              have hc' : (z.cps.toList.map fun c => decide (c ∈ letters.cps.toList))[i]? = some (decide (c ∈ letters.cps.toList)) := by
                rw [List.getElem?_map, Array.getElem?_toList, hc]
                rfl
              have hi' : i < z.length := hi
              refine ⟨rfl, .str ⟨#[c]⟩, rfl, c, _, rfl, rfl, _, hD, ?_, same_put sm nD, ?_⟩
              · rw [List.length_map, List.length_take]
                exact Nat.lt_of_le_of_lt (Nat.min_le_left _ _) (small1000 (by omega))
              · rw [upd_same, take_bl hc', List.map_append]
                rfl
            · obtain ⟨sm, hD⟩ := hP
              rw [List.take_of_length_le (by rw [List.length_map, Array.length_toList]; exact Nat.le_refl _)] at hD
              refine ⟨D, _, rfl, SqL.of hD, fin _ (smS.trans sm) _ ?_⟩
              rw [e6, List.all_map]
              rfl
      · have n1 : ¬ 1 ≤ z.length := fun g => e1 (decide_eq_true (by omega))
        refine ⟨false, rfl, fin _ smS false ?_⟩
        unfold isName
        rw [decide_eq_false n1, Bool.false_and, Bool.false_and, Bool.and_false]
    · refine ⟨v, rfl, v, .ty "str", _, _, false, rfl, .ty "str", tyx_same (same_new nS) ty, kt, false, rfl, ?_⟩
      have := q _ (same_new (o := .lst (kw.map V.str)) nS)
      rw [hn] at this
      exact this
end
end M01

set_option Elab.async false
set_option linter.all false
set_option maxRecDepth 100000
set_option maxHeartbeats 8000000
/-! values of any kind -/
namespace M01
open PySem PySem.Spec PyProof.Rows L2 GL
theorem scA : FnScope ["_law_box_here", "_law_some", "_law_found", "_law_turn"] ["_law_box_here"] (defScope sAny) := ⟨rfl, rfl, rfl, by decide +kernel, rfl, by decide +kernel, by decide +kernel⟩
/-- what is new since H -/
def Nw (H H' : Hp) : Hp := fun a => match H a with
  | none => H' a
  | some _ => none
theorem Nw.same (H H' : Hp) : Same (Nw H H') H' := fun a o h => by
  unfold Nw at h
  split at h
  · exact h
  · cases h
theorem Nw.at {p : Addr} {H H' : Hp} {o : HO} (n : H p = none) (h : H' p = some o) : Nw H H' p = some o := by
  unfold Nw
  rw [n]
  exact h
theorem Nw.put {p : Addr} {H H' : Hp} {u o : HO} (n : H p = some u) : Same (Nw H H') (Nw H (upd H' p o)) := fun a x h => by
  unfold Nw at h ⊢
  split at h
  · rename_i e
    have : a ≠ p := fun z => by
      rw [z, n] at e
      cases e
    show upd H' p o a = some x
    rw [upd_ne this]
    exact h
  · cases h
/-- what is new since H2 is new since H1 -/
theorem Nw.mono {H1 H2 H' : Hp} (d : ∀ a, H2 a = none → H1 a = none) : Same (Nw H2 H') (Nw H1 H') := fun a o h => by
  unfold Nw at h ⊢
  split at h
  · rename_i e
    rw [d a e]
    exact h
  · cases h
theorem Nw.ext {H H1 H2 : Hp} (x : Same H1 H2) : Same (Nw H H1) (Nw H H2) := fun a o h => by
  unfold Nw at h ⊢
  split at h
  · exact x a o h
  · cases h
theorem Off.nw {b : Addr} {u : HO} {H H1 H2 : Hp} (hb : H b = some u) (x : Off b H1 H2) : Same (Nw H H1) (Nw H H2) := fun a o h => by
  unfold Nw at h ⊢
  split at h
  · rename_i e
    exact x a o (fun z => by rw [z, hb] at e; cases e) h
  · cases h
theorem Off.fresh {b p : Addr} {H H' : Hp} {n : Nat} (x : Off b H H') (hB : Box H' b n) (hp : H' p = none) : H p = none := by
  cases e : H p with
  | none => rfl
  | some o =>
    rw [x p o (hB.ne hp) e] at hp
    cases hp
/-! ### data that can be shown -/
def Good (k : Nat) (d : PyData) : Prop := d.showable = true ∧ d.depth ≤ 4 + k ∧ d.shown.length ≤ 2000 + 20 * k
theorem Good.mono {j k : Nat} {d : PyData} (h : Good j d) (e : j ≤ k) : Good k d := ⟨h.1, by have := h.2.1; omega, by have := h.2.2; omega⟩
theorem len_app (a b : Str) : (a ++ b).length = a.length + b.length := strLen_append a b
theorem good_tup {k : Nat} {d : PyData} (h : Good k d) : Good (k + 1) (.tuple [d]) := by
  obtain ⟨h1, h2, h3⟩ := h
  refine ⟨by simp [PyData.showable, PyData.showableAll, h1], by simp [PyData.depth, PyData.depthAll]; omega, ?_⟩
  show (tupleText [d.shown]).length ≤ _
  have e : tupleText [d.shown] = ("(" : Str) ++ d.shown ++ (",)" : Str) := rfl
  rw [e, len_app, len_app]
  show 1 + _ + 2 ≤ _
  omega
theorem good_lst {k : Nat} {d : PyData} (h : Good k d) : Good (k + 1) (.list [d]) := by
  obtain ⟨h1, h2, h3⟩ := h
  refine ⟨by simp [PyData.showable, PyData.showableAll, h1], by simp [PyData.depth, PyData.depthAll]; omega, ?_⟩
  show (listText [d.shown]).length ≤ _
  have e : listText [d.shown] = ("[" : Str) ++ ("" : Str) ++ d.shown ++ ("]" : Str) := rfl
  rw [e, len_app, len_app, len_app]
  show 1 + 0 + _ + 1 ≤ _
  omega
theorem good_two {k : Nat} {d : PyData} (h : Good k d) : Good (k + 1) (.tuple [d, .int 1]) := by
  obtain ⟨h1, h2, h3⟩ := h
  refine ⟨?_, by simp [PyData.depth, PyData.depthAll]; omega, ?_⟩
  · simp only [PyData.showable, PyData.showableAll, h1]
    decide
  show (tupleText [d.shown, ("1" : Str)]).length ≤ _
  have e : tupleText [d.shown, ("1" : Str)] = ("(" : Str) ++ (d.shown ++ (", " : Str) ++ ("1" : Str)) ++ (")" : Str) := rfl
  rw [e, len_app, len_app, len_app, len_app]
  show 1 + (_ + 2 + 1) + 1 ≤ _
  omega
theorem good_dct {k : Nat} {d : PyData} (h : Good k d) : Good (k + 1) (.dict [(.str "a", d)]) := by
  obtain ⟨h1, h2, h3⟩ := h
  refine ⟨by simp [PyData.showable, PyData.showableKv, h1], by simp [PyData.depth, PyData.depthKv]; omega, ?_⟩
  show (dictText [PyData.shown (.str "a") ++ (": " : Str) ++ d.shown]).length ≤ _
  have e : dictText [PyData.shown (.str "a") ++ (": " : Str) ++ d.shown] = ("{" : Str) ++ (PyData.shown (.str "a") ++ (": " : Str) ++ d.shown) ++ ("}" : Str) := rfl
  have e2 : (PyData.shown (.str "a")).length = 3 := by decide +kernel
  rw [e, len_app, len_app, len_app, len_app, e2]
  show 1 + (3 + 2 + _) + 1 ≤ _
  omega
/-- data of any kind, to be shown -/
def AnyD (K : PySem.W.Frag) (H : Hp) (k : Nat) (v : V) : Prop := ∃ d, DV K H v d ∧ Good k d ∧ ∀ z, v = .str z → z.length ≤ 1000
theorem AnyD.same {K : PySem.W.Frag} {H H' : Hp} {k : Nat} {v : V} (e : Same H H') (h : AnyD K H k v) : AnyD K H' k v := by
  obtain ⟨d, h1, h2⟩ := h
  exact ⟨d, h1.same e, h2⟩
theorem AnyD.any {K : PySem.W.Frag} {H : Hp} {k : Nat} {v : V} (h : AnyD K H k v) : AnyV K H v := by
  obtain ⟨d, h1, _, h3⟩ := h
  have no : ∀ T : String, kitB T "str" = some false → PySem.W.kitOne K (.type T) (.type "str") = some false := fun T e => kit_ty e
  cases h1 with
  | non => exact .inr ⟨rfl, _, .base .non, no _ (by decide +kernel)⟩
  | bl b => exact .inr ⟨rfl, _, .base (.bl b), no _ (by decide +kernel)⟩
  | int i => exact .inr ⟨rfl, _, .base (.int i), no _ (by decide +kernel)⟩
  | str z => exact .inl ⟨z, rfl, h3 z rfl⟩
  | lst h _ _ =>
    refine .inr ⟨rfl, .type "list", ?_, no _ (by decide +kernel)⟩
    rcases h with (h | ⟨o, h⟩) | ⟨o, _, _, h, c, _⟩
    · exact .base (.lst h)
    · exact .base (.frz h)
    · exact .kList h c
  | tup h _ =>
    refine .inr ⟨rfl, .type "tuple", ?_, no _ (by decide +kernel)⟩
    rcases h with (h | ⟨o, h⟩) | ⟨o, _, _, h, c, _⟩
    · exact .base (.tup h)
    · exact .fTuple h
    · exact .kTuple h c
  | dct h _ =>
    refine .inr ⟨rfl, .type "dict", ?_, no _ (by decide +kernel)⟩
    rcases h with h | ⟨o, h⟩
    · exact .base (.dK h)
    · exact .fDict h
theorem allc {α : Type} {Pr : α → Prop} {x : α} {r : List α} (h : Pr x) (t : ∀ y ∈ r, Pr y) : ∀ y ∈ x :: r, Pr y := fun y hy => by
  rcases List.mem_cons.mp hy with rfl | hy
  · exact h
  · exact t y hy
theorem alln {α : Type} {Pr : α → Prop} : ∀ y ∈ ([] : List α), Pr y := fun _ h => nomatch h
theorem any_flat {K : PySem.W.Frag} {H : Hp} {v : V} {d : PyData} (h : DV K H v d) (g : Good 0 d) (z : ∀ z, v = .str z → z.length ≤ 1000) : AnyD K H 0 v := ⟨d, h, g, z⟩
theorem good0 {d : PyData} (h1 : d.showable = true) (h2 : d.depth ≤ 4) (h3 : d.shown.length ≤ 100) : Good 0 d := ⟨h1, h2, by omega⟩
theorem any_str {K : PySem.W.Frag} {H : Hp} {z : Str} (h : z.length ≤ 1000) (h3 : (PyData.shown (.str z)).length ≤ 100) : AnyD K H 0 (.str z) := ⟨_, .str z, ⟨rfl, by show 0 ≤ 4; decide, by omega⟩, fun _ e => by cases e; exact h⟩
theorem any_obj {K : PySem.W.Frag} {H : Hp} {k : Nat} {a : Addr} {d : PyData} (h : DV K H (.ref a) d) (g : Good k d) : AnyD K H k (.ref a) := ⟨d, h, g, fun _ e => nomatch e⟩
section
variable {P : Program} {w : World} {K : PySem.W.Frag} {mg : Str → Option Value} {base : Heap}
def spAny (K : PySem.W.Frag) : Sp := fun vs H Q _ => ∃ (b : Addr) (n : Nat), vs = [.ref b] ∧ Box H b n ∧ n + 10 < 1000000 ∧ ∀ (H' : Hp) (v : V), Off b H H' → Box H' b (n + 10) → AnyD K (Nw H H') 6 v → Q v H'
theorem ok_any {f : Addr} {fd : FuncData} (F : Fun K "_law_any" "_law_any" sAny f fd) (T : Bl K mg) (d_of : DnG P w K mg base "_law_of" 2 ["_law_box_here", "_law_some"] spOf) : FnG P w K mg base CX0 3 f fd ["_law_box_here"] (spAny K) := by
  refine okG0 F scA (fun vs H Q E h => ?_) (fun cdv A outer s H vs Q E hr hG h => ?_)
  · obtain ⟨b, n, rfl, _⟩ := h
    rfl
  · obtain ⟨b, n, rfl, hB, hn, q⟩ := h
    have lo : ∀ {H1 H2 : Hp}, Off b H1 H2 → Same (Nw H H1) (Nw H H2) := fun x => by
      obtain ⟨_, _, _, hb, _⟩ := hB
      exact Off.nw hb x
    refine ⟨_, (pss_cons (ps_set (i := 1) scA.nd rfl (Or.inl rfl) (pe_lstB (pa_cons pe_non (pa_cons pe_bl (pa_cons pe_bl (pa_cons pe_int (pa_cons pe_int (pa_cons (pe_un un_neg pe_int) (pa_cons pe_int (pa_cons pe_str (pa_cons pe_str (pa_cons pe_str (pa_cons pe_str (pa_cons pe_str (pa_cons (pe_tup pa_nil) (pa_cons (pe_lstB pa_nil) (pa_cons pe_dnewK (pa_cons (pe_tup (pa_cons pe_str pa_nil)) (pa_cons (pe_lstB (pa_cons pe_str pa_nil)) pa_nil)))))))))))))))))))
      (pss_cons (ps_set (i := 2) scA.nd rfl (Or.inl rfl) (pe_callG d_of.ok (hr.mono (by decide)) hG (by rfl) d_of.g d_of.kp d_of.b .nil pass0 (pa_cons (pv 0) (pa_cons (pe_op op_cat (pv 1) (pe_lstB (pa_cons (pe_tup (pa_cons pe_str (pa_cons pe_str pa_nil))) (pa_cons pe_str (pa_cons pe_str (pa_cons (pe_tup (pa_cons (pe_tup (pa_cons pe_str (pa_cons pe_str pa_nil))) pa_nil)) (pa_cons (pe_disp (pps_cons pe_str pe_int pps_nil) (by rfl) (by rfl) (fun z => by cases z) (by decide)) (pa_cons pe_str (pa_cons pe_str pa_nil))))))))) pa_nil))))
      (pss_cons (ps_for PassesOwn.never rfl (pi_range1 (by rfl) T.range (pa_cons (pe_callG d_of.ok (hr.mono (by decide)) hG (by rfl) d_of.g d_of.kp d_of.b .nil pass0 (pa_cons (pv 0) (pa_cons (pe_lstB (pa_cons pe_int (pa_cons pe_int (pa_cons pe_int (pa_cons pe_int (pa_cons pe_int (pa_cons pe_int pa_nil))))))) pa_nil))) pa_nil)) (pg_name (i := 3) scA.nd rfl (Or.inl rfl))
        (pss_one (ps_set (i := 2) scA.nd rfl (Or.inl rfl) (pe_callG d_of.ok (hr.mono (by decide)) hG (by rfl) d_of.g d_of.kp d_of.b .nil pass0 (pa_cons (pv 0) (pa_cons (pe_lstB (pa_cons (pe_tup (pa_cons (pv 2) pa_nil)) (pa_cons (pe_lstB (pa_cons (pv 2) pa_nil)) (pa_cons (pe_disp (pps_cons pe_str (pv 2) pps_nil) (by rfl) (by rfl) (fun z => by cases z) (by decide)) (pa_cons (pe_tup (pa_cons (pv 2) (pa_cons pe_int pa_nil))) pa_nil))))) pa_nil))))))
      (pss_one (ps_ret (pv 2)))))), ?_⟩
    refine ⟨1, rfl, Nat.zero_le _, fun p1 n1 => ⟨Nat.zero_le _, fun p2 n2 s2 => fun p3 n3 => ⟨by show 1 ≤ sizeLine; decide, fun p4 n4 => ⟨by show 1 ≤ sizeLine; decide, fun p5 n5 s5 => ⟨by show 17 ≤ sizeLine; decide, fun S nS sS => ?_⟩⟩⟩⟩⟩
    have b1 := hB.ne n1
    have hB1 : Box (upd H p1 (.tup [])) b n := hB.new b1
    have b2 := hB1.ne n2
    have hB2 := hB1.new (u := .lst []) b2
    have b3 := hB2.ne n3
    have hB3 := hB2.new (u := .dK []) b3
    have b4 := hB3.ne n4
    have hB4 := hB3.new (u := .tup [.str "a"]) b4
    have b5 := hB4.ne n5
    have hB5 := hB4.new (u := .lst [.str "a"]) b5
    have bS := hB5.ne nS
    have w1 := n1
    have o1 : Off b H (upd H p1 (.tup [])) := Off.new n1
    have o2 := Off.new (b := b) (u := .lst []) n2
    have o3 := Off.new (b := b) (u := .dK []) n3
    have o4 := Off.new (b := b) (u := .tup [.str "a"]) n4
    have w2 := o1.fresh hB1 n2
    have w3 := (o1.trans o2).fresh hB2 n3
    have w4 := ((o1.trans o2).trans o3).fresh hB3 n4
    have w5 := (((o1.trans o2).trans o3).trans o4).fresh hB4 n5
    have a1 : AnyD K (Nw H (upd H p1 (.tup []))) 0 (.ref p1) := any_obj (.tup (SqT.of (Nw.at w1 upd_same)) .nil) ⟨rfl, by decide, by decide +kernel⟩
    have a2 := any_obj (K := K) (k := 0) (.lst (SqL.of (Nw.at w2 (upd_same (H := upd H p1 (.tup [])) (o := .lst [])))) s2 .nil) ⟨rfl, by decide, by decide +kernel⟩
    have a3 := any_obj (K := K) (k := 0) (.dct (.inl (Nw.at w3 (upd_same (H := upd (upd H p1 (.tup [])) p2 (.lst [])) (o := .dK [])))) .nil) ⟨rfl, by decide, by decide +kernel⟩
    have a4 := any_obj (K := K) (k := 0) (.tup (SqT.of (Nw.at w4 (upd_same (H := upd (upd (upd H p1 (.tup [])) p2 (.lst [])) p3 (.dK [])) (o := .tup [.str "a"])))) (.cons (.str _) .nil)) ⟨rfl, by decide, by decide +kernel⟩
    have a5 := any_obj (K := K) (k := 0) (.lst (SqL.of (Nw.at w5 (upd_same (H := upd (upd (upd (upd H p1 (.tup [])) p2 (.lst [])) p3 (.dK [])) p4 (.tup [.str "a"])) (o := .lst [.str "a"])))) s5 (.cons (.str _) .nil)) ⟨rfl, by decide, by decide +kernel⟩
    have o1 : Off b H (upd H p1 (.tup [])) := Off.new n1
    have o2 := Off.new (b := b) (u := .lst []) n2
    have o3 := Off.new (b := b) (u := .dK []) n3
    have o4 := Off.new (b := b) (u := .tup [.str "a"]) n4
    have o5 := Off.new (b := b) (u := .lst [.str "a"]) n5
    have a1 := a1.same (lo (((o2.trans o3).trans o4).trans o5))
    have a2 := a2.same (lo ((o3.trans o4).trans o5))
    have a3 := a3.same (lo (o4.trans o5))
    have a4 := a4.same (lo o5)
    have o5 := (((o1.trans o2).trans o3).trans o4).trans o5
    have hB6 := hB5.new (u := .lst [.non, .bl true, .bl false, .int 0, .int 1, .int (-1), .int 999999999, .str "", .str "a", .str "main", .str "A", .str "\x69mport", .ref p1, .ref p2, .ref p3, .ref p4, .ref p5]) bS
    have o6 := Off.new (b := b) (u := .lst [.non, .bl true, .bl false, .int 0, .int 1, .int (-1), .int 999999999, .str "", .str "a", .str "main", .str "A", .str "\x69mport", .ref p1, .ref p2, .ref p3, .ref p4, .ref p5]) nS
    have all1 : ∀ x ∈ [.non, .bl true, .bl false, .int 0, .int 1, .int (-1), .int 999999999, .str "", .str "a", .str "main", .str "A", .str "\x69mport", .ref p1, .ref p2, .ref p3, .ref p4, .ref p5], AnyD K (Nw H (upd (upd (upd (upd (upd (upd H p1 (.tup [])) p2 (.lst [])) p3 (.dK [])) p4 (.tup [.str "a"])) p5 (.lst [.str "a"])) S (.lst [.non, .bl true, .bl false, .int 0, .int 1, .int (-1), .int 999999999, .str "", .str "a", .str "main", .str "A", .str "\x69mport", .ref p1, .ref p2, .ref p3, .ref p4, .ref p5]))) 0 x := by
      have g : ∀ d : PyData, d.showable = true → d.depth ≤ 4 → d.shown.length ≤ 100 → Good 0 d := fun d h1 h2 h3 => ⟨h1, h2, by omega⟩
      refine allc (any_flat .non (g _ rfl (by decide) (by decide +kernel)) fun _ e => nomatch e) (allc (any_flat (.bl _) (g _ rfl (by decide) (by decide +kernel)) fun _ e => nomatch e) (allc (any_flat (.bl _) (g _ rfl (by decide) (by decide +kernel)) fun _ e => nomatch e)
        (allc (any_flat (.int _) (g _ (by decide +kernel) (by decide) (by decide +kernel)) fun _ e => nomatch e) (allc (any_flat (.int _) (g _ (by decide +kernel) (by decide) (by decide +kernel)) fun _ e => nomatch e) (allc (any_flat (.int _) (g _ (by decide +kernel) (by decide) (by decide +kernel)) fun _ e => nomatch e)
        (allc (any_flat (.int _) (g _ (by decide +kernel) (by decide) (by decide +kernel)) fun _ e => nomatch e) (allc (any_str (by decide) (by decide +kernel)) (allc (any_str (by decide) (by decide +kernel)) (allc (any_str (by decide) (by decide +kernel)) (allc (any_str (by decide) (by decide +kernel)) (allc (any_str (by decide) (by decide +kernel))
        (allc (a1.same (lo o6)) (allc (a2.same (lo o6)) (allc (a3.same (lo o6)) (allc (a4.same (lo o6)) (allc (a5.same (lo o6)) alln))))))))))))))))
    have o6 := o5.trans o6
    have hS6 : (upd (upd (upd (upd (upd (upd H p1 (.tup [])) p2 (.lst [])) p3 (.dK [])) p4 (.tup [.str "a"])) p5 (.lst [.str "a"])) S (.lst [.non, .bl true, .bl false, .int 0, .int 1, .int (-1), .int 999999999, .str "", .str "a", .str "main", .str "A", .str "\x69mport", .ref p1, .ref p2, .ref p3, .ref p4, .ref p5])) S = some (.lst [.non, .bl true, .bl false, .int 0, .int 1, .int (-1), .int 999999999, .str "", .str "a", .str "main", .str "A", .str "\x69mport", .ref p1, .ref p2, .ref p3, .ref p4, .ref p5]) := upd_same
    have lx1 : [V.non, .bl true, .bl false, .int 0, .int 1, .int (-1), .int 999999999, .str "", .str "a", .str "main", .str "A", .str "\x69mport", .ref p1, .ref p2, .ref p3, .ref p4, .ref p5].length = 17 := rfl
    clear a1 a2 a3 a4 a5 o1 o2 o3 o4 o5 hB1 hB2 hB3 hB4 hB5
    revert hB6 all1 o6 hS6 lx1
    generalize upd (upd (upd (upd (upd (upd H p1 (.tup [])) p2 (.lst [])) p3 (.dK [])) p4 (.tup [.str "a"])) p5 (.lst [.str "a"])) S (.lst [.non, .bl true, .bl false, .int 0, .int 1, .int (-1), .int 999999999, .str "", .str "a", .str "main", .str "A", .str "\x69mport", .ref p1, .ref p2, .ref p3, .ref p4, .ref p5]) = H6
    generalize [V.non, .bl true, .bl false, .int 0, .int 1, .int (-1), .int 999999999, .str "", .str "a", .str "main", .str "A", .str "\x69mport", .ref p1, .ref p2, .ref p3, .ref p4, .ref p5] = xs1
    intro hB6 all1 o6 hS6 lx1
    refine ⟨.ref b, rfl, .ref S, rfl, by show 2 ≤ sizeLine; decide, fun q1 m1 => ⟨by show 2 ≤ sizeLine; decide, fun q2 m2 => ⟨by show 1 ≤ sizeLine; decide, fun q3 m3 => fun q4 m4 => ⟨upd_same, [(Sum.inr "a", .int 1)], rfl, by decide, ⟨by show 7 ≤ sizeLine; decide, fun q5 m5 s5 => ?_⟩⟩⟩⟩⟩
    have g : ∀ d : PyData, d.showable = true → d.depth ≤ 4 → d.shown.length ≤ 100 → Good 0 d := fun d h1 h2 h3 => ⟨h1, h2, by omega⟩
    have c1 := hB6.ne m1
    have hC1 := hB6.new (u := .tup [.str "a", .str ""]) c1
    have c2 := hC1.ne m2
    have hC2 := hC1.new (u := .tup [.str "a", .str ""]) c2
    have c3 := hC2.ne m3
    have hC3 := hC2.new (u := .tup [.ref q2]) c3
    have c4 := hC3.ne m4
    have r1 := Off.new (b := b) (u := .tup [.str "a", .str ""]) m1
    have r2 := Off.new (b := b) (u := .tup [.str "a", .str ""]) m2
    have r3 := Off.new (b := b) (u := .tup [.ref q2]) m3
    have v1 := o6.fresh hB6 m1
    have v2 := (o6.trans r1).fresh hC1 m2
    have v3 := (o6.trans (r1.trans r2)).fresh hC2 m3
    have v4 := (o6.trans (r1.trans (r2.trans r3))).fresh hC3 m4
    have e1 : DV K (Nw H (upd H6 q1 (.tup [.str "a", .str ""]))) (.ref q1) (.tuple [.str "a", .str ""]) := .tup (SqT.of (Nw.at v1 upd_same)) (.cons (.str _) (.cons (.str _) .nil))
    have e2 : DV K (Nw H (upd (upd H6 q1 (.tup [.str "a", .str ""])) q2 (.tup [.str "a", .str ""]))) (.ref q2) (.tuple [.str "a", .str ""]) := .tup (SqT.of (Nw.at v2 upd_same)) (.cons (.str _) (.cons (.str _) .nil))
    have e3 : DV K (Nw H (upd (upd (upd H6 q1 (.tup [.str "a", .str ""])) q2 (.tup [.str "a", .str ""])) q3 (.tup [.ref q2]))) (.ref q3) (.tuple [.tuple [.str "a", .str ""]]) := .tup (SqT.of (Nw.at v3 upd_same)) (.cons (e2.same (lo r3)) .nil)
    have e1 := e1.same (lo (r2.trans r3))
    have r3 := o6.trans ((r1.trans r2).trans r3)
    have all9 := fun x hx => (all1 x hx).same (lo ((Off.new (b := b) (u := .tup [.str "a", .str ""]) m1).trans ((Off.new (b := b) (u := .tup [.str "a", .str ""]) m2).trans (Off.new (b := b) (u := .tup [.ref q2]) m3))))
    have hS9 := (Off.new (b := b) (u := .tup [.ref q2]) m3) S _ bS ((Off.new (b := b) (u := .tup [.str "a", .str ""]) m2) S _ bS ((Off.new (b := b) (u := .tup [.str "a", .str ""]) m1) S _ bS hS6))
    clear e2 r1 r2 hC1 hC2 all1 o6 hS6
    generalize upd (upd (upd H6 q1 (.tup [.str "a", .str ""])) q2 (.tup [.str "a", .str ""])) q3 (.tup [.ref q2]) = H9 at *
    have hC4 := (hC3.new (u := .dK []) c4).new (u := .dK (mergeK [] [(Sum.inr "a", .int 1)])) c4
    have r4 : Off b H9 (upd (upd H9 q4 (.dK [])) q4 (.dK (mergeK [] [(Sum.inr "a", .int 1)]))) := (Off.new m4).put m4
    have e4 : DV K (Nw H (upd (upd H9 q4 (.dK [])) q4 (.dK (mergeK [] [(Sum.inr "a", .int 1)])))) (.ref q4) (.dict [(.str "a", .int 1)]) := .dct (.inl (Nw.at v4 upd_same)) (.cons (k := Sum.inr "a") (.int 1) .nil)
    have e1 := e1.same (lo r4)
    have e3 := e3.same (lo r4)
    have all10 := fun x hx => (all9 x hx).same (lo r4)
    have hS10 := r4 S _ bS hS9
    have r4 := r3.trans r4
    clear all9 hS9 r3 hC3
    generalize upd (upd H9 q4 (.dK [])) q4 (.dK (mergeK [] [(Sum.inr "a", .int 1)])) = H10 at *
    have c5 := hC4.ne m5
    refine ⟨S, q5, xs1, _, rfl, rfl, Off.new (b := b) m5 S _ bS hS10, upd_same, by rw [lx1]; show 17 + 7 ≤ sizeLine; decide, fun q6 m6 => ?_⟩
    have hC5 := hC4.new (u := .lst [.ref q1, .str "abcdefghijkl", .str "abcdefghijklm", .ref q3, .ref q4, .str "a b", .str "a1"]) c5
    have c6 := hC5.ne m6
    refine ⟨b, q6, _, n, rfl, upd_same, c6, hC5.new c6, by omega, by rw [List.length_append, lx1]; show 0 < 17 + 7; decide, by rw [List.length_append, lx1]; show 17 + 7 < 1000000; decide, fun x u hx hB7 => ?_⟩
    have r5 := (Off.new (b := b) (u := .lst [.ref q1, .str "abcdefghijkl", .str "abcdefghijklm", .ref q3, .ref q4, .str "a b", .str "a1"]) m5).trans ((Off.new (b := b) (u := .lst (xs1 ++ [.ref q1, .str "abcdefghijkl", .str "abcdefghijklm", .ref q3, .ref q4, .str "a b", .str "a1"])) m6).trans (Off.box (u := u)))
    have ax : AnyD K (Nw H H10) 0 x := by
      rcases List.mem_append.mp hx with hx | hx
      · exact all10 x hx
      · refine (allc (any_obj e1 (g _ rfl (by decide) (by decide +kernel))) (allc (any_str (by decide) (by decide +kernel)) (allc (any_str (by decide) (by decide +kernel)) (allc (any_obj e3 (g _ rfl (by decide) (by decide +kernel)))
          (allc (any_obj e4 (g _ rfl (by decide) (by decide +kernel))) (allc (any_str (by decide) (by decide +kernel)) (allc (any_str (by decide) (by decide +kernel)) alln)))))) x hx)
    have ax := ax.same (lo r5)
    have r5 := r4.trans r5
    clear e1 e3 e4 all10 hS10 r4 hC4 hx
    generalize upd (upd (upd H10 q5 (.lst [.ref q1, .str "abcdefghijkl", .str "abcdefghijklm", .ref q3, .ref q4, .str "a b", .str "a1"])) q6 (.lst (xs1 ++ [.ref q1, .str "abcdefghijkl", .str "abcdefghijklm", .ref q3, .ref q4, .str "a b", .str "a1"]))) b u = H7 at *
    -- the turns
    refine ⟨.ref b, rfl, by show 6 ≤ sizeLine; decide, fun t1 k1 _ => ?_⟩
    have d1 := hB7.ne k1
    refine ⟨b, t1, _, n + 1, rfl, upd_same, d1, hB7.new d1, by omega, by show 0 < 6; decide, by show 6 < 1000000; decide, fun y u2 hy hB8 => ?_⟩
    obtain ⟨m, rfl, hm⟩ : ∃ m : Nat, y = .int (m : Int) ∧ m ≤ 6 :=
      allc (Pr := fun y => ∃ m : Nat, y = .int (m : Int) ∧ m ≤ 6) ⟨0, rfl, by decide⟩ (allc ⟨0, rfl, by decide⟩ (allc ⟨0, rfl, by decide⟩ (allc ⟨1, rfl, by decide⟩ (allc ⟨2, rfl, by decide⟩ (allc ⟨6, rfl, by decide⟩ alln))))) y hy
    have r6 := (Off.new (b := b) (u := .lst [.int 0, .int 0, .int 0, .int 1, .int 2, .int 6]) k1).trans (Off.box (u := u2))
    have ax := ax.same (lo r6)
    have r6 := r5.trans r6
    generalize upd (upd H7 t1 (.lst [.int 0, .int 0, .int 0, .int 1, .int 2, .int 6])) b u2 = H8 at *
    refine ⟨(m : Int), rfl, by omega, by omega, ?_⟩
    refine for_range (lo := 0) (n := m) (fun i σ H9 => ∃ v y3, σ = [some (.ref b), some (.ref S), some v, y3] ∧ Off b H H9 ∧ Box H9 b (n + 2 + i) ∧ AnyD K (Nw H H9) i v) ⟨x, _, rfl, r6, hB8, ax⟩ (fun i σ H9 hi hP => ?_) (fun σ H9 hP => ?_)
    · obtain ⟨v, y3, rfl, off, hB9, dv, av, gv, _⟩ := hP
      refine ⟨.ref b, rfl, v, rfl, by show 1 ≤ sizeLine; decide, fun t2 k2 => ⟨v, rfl, by show 1 ≤ sizeLine; decide, fun t3 k3 s3 => fun t4 k4 => ⟨v, rfl, upd_same, [(Sum.inr "a", v)], rfl, by show 1 ≤ 15; decide, v, rfl, by show 2 ≤ sizeLine; decide, fun t5 k5 => ⟨by show 4 ≤ sizeLine; decide, fun t6 k6 _ => ?_⟩⟩⟩⟩
      have d2 := hB9.ne k2
      have hD2 := hB9.new (u := .tup [v]) d2
      have d3 := hD2.ne k3
      have hD3 := hD2.new (u := .lst [v]) d3
      have d4 := hD3.ne k4
      have hD4 := (hD3.new (u := .dK []) d4).new (u := .dK (mergeK [] [(Sum.inr "a", v)])) d4
      have d5 := hD4.ne k5
      have hD5 := hD4.new (u := .tup [v, .int 1]) d5
      have d6 := hD5.ne k6
      have f2 := Off.new (b := b) (u := .tup [v]) k2
      have f3 := Off.new (b := b) (u := .lst [v]) k3
      have f4 := (Off.new (b := b) (u := .dK []) k4).put (u := .dK (mergeK [] [(Sum.inr "a", v)])) k4
      have f5 := Off.new (b := b) (u := .tup [v, .int 1]) k5
      have x2' := off.fresh hB9 k2
      have x3' := (off.trans f2).fresh hD2 k3
      have x4' := (off.trans (f2.trans f3)).fresh hD3 k4
      have x5' := (off.trans (f2.trans (f3.trans f4))).fresh hD4 k5
      refine ⟨b, t6, _, n + 2 + i, rfl, upd_same, d6, hD5.new d6, by omega, by show 0 < 4; decide, by show 4 < 1000000; decide, fun x2 u3 hx2 hB10 => ?_⟩
      have f6 := (Off.new (b := b) (u := .lst [.ref t2, .ref t3, .ref t4, .ref t5]) k6).trans (Off.box (u := u3))
      refine ⟨x2, _, rfl, off.trans (f2.trans (f3.trans (f4.trans (f5.trans f6)))), hB10.mono (by omega), ?_⟩
      have v2 := av.same (lo f2)
      have v3 := v2.same (lo f3)
      have v4 := v3.same (lo f4)
      have v5 := v4.same (lo f5)
      refine AnyD.same (lo f6) (allc (any_obj ((DV.tup (SqT.of (Nw.at x2' upd_same)) (.cons v2 .nil)).same (lo (f3.trans (f4.trans f5)))) (good_tup gv)) (allc (any_obj ((DV.lst (SqL.of (Nw.at x3' upd_same)) s3 (.cons v3 .nil)).same (lo (f4.trans f5))) (good_lst gv))
        (allc (any_obj ((DV.dct (.inl (Nw.at x4' upd_same)) (.cons (k := Sum.inr "a") v4 .nil)).same (lo f5)) (good_dct gv)) (allc (any_obj (DV.tup (SqT.of (Nw.at x5' upd_same)) (.cons v5 (.cons (.int 1) .nil))) (good_two gv)) alln))) x2 hx2)
    · obtain ⟨v, y3, rfl, off, hB9, d, h1, h2, h3⟩ := hP
      exact ⟨v, rfl, q H9 v off (hB9.mono (by omega)) ⟨d, h1, h2.mono hm, h3⟩⟩
end
end M01

set_option Elab.async false
set_option linter.all false
set_option maxRecDepth 100000
set_option maxHeartbeats 8000000
/-! words near names -/
namespace M01
open PySem PySem.Spec PyProof.Rows L2 GL
theorem scV : FnScope ["_law_box_here", "_law_some", "_law_word", "_law_at", "_law_front", "_law_back", "_law_size", "_law_turn", "_law_sign"] ["_law_box_here"] (defScope sWords) := ⟨rfl, rfl, rfl, by decide +kernel, rfl, by decide +kernel, by decide +kernel⟩
def ws : List Str := ["\x69mport", "template", "list", "document", "let", "new", "for", "in", "where", "give", "if", "then", "else", "number", "text"]
def sg9 : List Str := ["A", "1", "_", " ", ".", "-", "\n", "{", "~"]
theorem ws_len : ∀ z ∈ ws, 2 ≤ z.length ∧ z.length ≤ 8 := by decide
/-- a text of at most m signs that can be shown -/
def Fine (m : Nat) (z : Str) : Prop := z.length ≤ m ∧ ∀ c ∈ z.cps.toList, c < 16 ^ 8
theorem Fine.mono {m k : Nat} {z : Str} (h : Fine m z) (e : m ≤ k) : Fine k z := ⟨Nat.le_trans h.1 e, h.2⟩
theorem Fine.app {m k : Nat} {x y : Str} (h : Fine m x) (g : Fine k y) : Fine (m + k) (x ++ y) := by
  refine ⟨by rw [len_app]; exact Nat.add_le_add h.1 g.1, fun c hc => ?_⟩
  have e : (x ++ y).cps.toList = x.cps.toList ++ y.cps.toList := by
    show (x.cps ++ y.cps).toList = _
    rw [Array.toList_append]
  rw [e] at hc
  exact (List.mem_append.mp hc).elim (h.2 c) (g.2 c)
theorem Fine.cut {m : Nat} {z : Str} (lo hi : Option Int) (h : Fine m z) : Fine m (cutS z lo hi) := by
  refine ⟨Nat.le_trans (cutS_length z lo hi) h.1, fun c hc => h.2 c ?_⟩
  have hc : c ∈ (((z.cps.toList.drop (HT.sIx z.length 0 lo)).take (HT.sIx z.length z.length hi - HT.sIx z.length 0 lo)).toArray).toList := hc
  rw [List.toList_toArray] at hc
  exact List.mem_of_mem_drop (List.mem_of_mem_take hc)
theorem join_mem (s : Str) : ∀ (ys : List Str) (c : Nat), c ∈ (Str.join s ys).cps.toList → c ∈ s.cps.toList ∨ ∃ y ∈ ys, c ∈ y.cps.toList
  | [], c, h => by
    have h : c ∈ (Str.empty).cps.toList := h
    exact absurd h (by simp [Str.empty])
  | [x], c, h => .inr ⟨x, List.mem_cons_self .., h⟩
  | x :: y :: r, c, h => by
    have e : (Str.join s (x :: y :: r)).cps.toList = (x.cps.toList ++ s.cps.toList) ++ (Str.join s (y :: r)).cps.toList := by
      show ((x.cps ++ s.cps) ++ (Str.join s (y :: r)).cps).toList = _
      rw [Array.toList_append, Array.toList_append]
    rw [e] at h
    rcases List.mem_append.mp h with h | h
    · rcases List.mem_append.mp h with h | h
      · exact .inr ⟨x, List.mem_cons_self .., h⟩
      · exact .inl h
    · rcases join_mem s (y :: r) c h with h | ⟨z, hz, h⟩
      · exact .inl h
      · exact .inr ⟨z, List.mem_cons_of_mem _ hz, h⟩
theorem ws_fine : ∀ z ∈ ws, Fine 8 z ∧ Fine 24 (Txt.upper z) := fun z hz => by
  have h : ∀ z ∈ ws, (z.length ≤ 8 ∧ ∀ c ∈ z.cps.toList, c < 16 ^ 8) ∧ ((Txt.upper z).length ≤ 24 ∧ ∀ c ∈ (Txt.upper z).cps.toList, c < 16 ^ 8) := by decide +kernel
  exact h z hz
theorem sg9_fine : ∀ z ∈ sg9, Fine 1 z := fun z hz => by
  have h : ∀ z ∈ sg9, z.length ≤ 1 ∧ ∀ c ∈ z.cps.toList, c < 16 ^ 8 := by decide +kernel
  exact h z hz
theorem join_le (s : Str) (ys : List Str) : (Txt.join s ys).length ≤ (ys.map (·.length)).sum + ys.length * s.length := by
  show (PySem.Builtin.Str.glued s ys).length ≤ _
  rw [StrLaws.glued_eq_join]
  exact StrLaws.join_length_le s ys
theorem sum_one : ∀ ys : List Str, (∀ y ∈ ys, y.length = 1) → (ys.map (·.length)).sum = ys.length
  | [], _ => rfl
  | y :: r, h => by
    rw [List.map_cons, List.sum_cons, sum_one r fun z hz => h z (List.mem_cons_of_mem _ hz), h y (List.mem_cons_self ..), List.length_cons]
    omega
theorem at_str {l : List Str} {i : Nat} {x : V} (h : (l.map V.str)[i]? = some x) : ∃ z, l[i]? = some z ∧ x = .str z := by
  rw [List.getElem?_map] at h
  cases e : l[i]? with
  | none => rw [e] at h; cases h
  | some n => rw [e] at h; cases h; exact ⟨n, rfl, rfl⟩
/-- texts of at most a hundred signs -/
def Short (zs : List Str) : Prop := ∀ z ∈ zs, Fine 100 z
theorem Short.app {a b : List Str} (x : Short a) (y : Short b) : Short (a ++ b) := fun z hz => (List.mem_append.mp hz).elim (x z) (y z)
section
variable {P : Program} {w : World} {K : PySem.W.Frag} {mg : Str → Option Value} {base : Heap}
def spWords : Sp := fun vs H Q _ => ∃ (b : Addr) (n : Nat), vs = [.ref b] ∧ Box H b n ∧ n + 300 < 1000000 ∧
  ∀ (H' : Hp) (p : Addr) (zs : List Str), Off b H H' → Box H' b (n + 300) → H p = none → H' p = some (.lst (zs.map V.str)) → Short zs → zs.length ≤ 500 → Q (.ref p) H'
theorem ok_words {f : Addr} {fd : FuncData} (F : Fun K "_law_words" "_law_words" sWords f fd) (T : Bl K mg) (d_take : DnG P w K mg base "_law_take" 1 ["_law_box_here", "_law_many"] spTake)
    (d_of : DnG P w K mg base "_law_of" 2 ["_law_box_here", "_law_some"] spOf) : FnG P w K mg base CX0 3 f fd ["_law_box_here"] spWords := by
  refine okG0 F scV (fun vs H Q E h => ?_) (fun cdv A outer s H vs Q E hr hG h => ?_)
  · obtain ⟨b, n, rfl, _⟩ := h
    rfl
  · obtain ⟨b, n, rfl, hB, hn, q⟩ := h
    refine ⟨_, (pss_cons (ps_set (i := 1) scV.nd rfl (Or.inl rfl) (pe_split pe_str pe_str))
      (pss_cons (ps_for PassesOwn.never rfl (pi_list (pe_callTy call_list_of (by rfl) T.list (by decide +kernel) (pa_cons (pv 1) pa_nil))) (pg_name (i := 2) scV.nd rfl (Or.inr rfl))
        (pss_cons (ps_set (i := 3) scV.nd rfl (Or.inr rfl) (pe_callG d_take.ok (hr.mono (by decide)) hG (by rfl) d_take.g d_take.kp d_take.b .nil pass0 (pa_cons (pv 0) (pa_cons (pe_callB call_len_str (by rfl) T.len (by decide +kernel) (pa_cons (pv 2) pa_nil)) pa_nil))))
        (pss_cons (ps_par (i := 4) (j := 5) (by rfl) scV.nd rfl rfl (by decide) rfl rfl (pa_cons (pe_slice sl_str (pv 2) po_none (po_some (pv 3))) (pa_cons (pe_slice sl_str (pv 2) (po_some (pe_op op_add (pv 3) pe_int)) po_none) pa_nil)) (by rfl))
        (pss_one (ps_expr (pe_bm PySem.F.plainAttrs_list PySem.F.slot_list_extend PySem.F.type_list_extend mt_extend (pv 1) (pa_cons (pe_lst (pa_cons (pe_op op_add_str (pv 2) pe_str) (pa_cons (pe_op op_add_str (pv 4) (pv 5)) (pa_cons (pe_op op_add_str (pe_op op_add_str (pv 4) pe_str) (pv 5)) (pa_cons (pe_upper (pv 2)) (pa_cons (pe_op op_add_str (pv 2) pe_str) pa_nil)))))) pa_nil)))))))
      (pss_cons (ps_for PassesOwn.never rfl (pi_tup (pe_tup (pa_cons pe_int (pa_cons pe_int (pa_cons pe_int (pa_cons pe_int (pa_cons (pe_op op_add pe_int (pe_callG d_take.ok (hr.mono (by decide)) hG (by rfl) d_take.g d_take.kp d_take.b .nil pass0 (pa_cons (pv 0) (pa_cons pe_int pa_nil)))) pa_nil))))))) (pg_name (i := 6) scV.nd rfl (Or.inl rfl))
        (pss_cons (ps_set (i := 2) scV.nd rfl (Or.inr rfl) (pe_join pe_str (pe_lc (own := [("_law_turn", 7)]) (g := gName 7) (by rfl) scV.nd (pi_range1 (by rfl) T.range (pa_cons (pv 6) pa_nil)) (blkOk_by (own := [("_law_turn", 7)]) (N := ["_law_box_here", "_law_some", "_law_word", "_law_at", "_law_front", "_law_back", "_law_size", "_law_turn", "_law_sign"]) (sc := defScope sWords) (by decide +kernel)) (fun _ _ _ _ _ => (pg_name (i := 7) scV.nd rfl (Or.inl rfl))) (fun _ _ _ _ _ => pts_nil) (fun _ _ _ _ _ => (pe_callG d_of.ok (hr.mono (by decide)) hG (by rfl) d_of.g d_of.kp d_of.b .nil pass0 (pa_cons (pv 0) (pa_cons (pe_callTy (call_listS rfl) (by rfl) T.list (by decide +kernel) (pa_cons pe_str pa_nil)) pa_nil)))))))
        (pss_cons (ps_set (i := 3) scV.nd rfl (Or.inr rfl) (pe_callG d_take.ok (hr.mono (by decide)) hG (by rfl) d_take.g d_take.kp d_take.b .nil pass0 (pa_cons (pv 0) (pa_cons (pv 6) pa_nil))))
        (pss_cons (ps_expr (pe_bm PySem.F.plainAttrs_list PySem.F.slot_list_append PySem.F.type_list_append mt_append (pv 1) (pa_cons (pv 2) pa_nil)))
        (pss_one (ps_expr (pe_bm PySem.F.plainAttrs_list PySem.F.slot_list_extend PySem.F.type_list_extend mt_extend (pv 1) (pa_cons (pe_lc (own := [("_law_sign", 8)]) (g := gName 8) (by rfl) scV.nd (pi_list (pe_lst (pa_cons pe_str (pa_cons pe_str (pa_cons pe_str (pa_cons pe_str (pa_cons pe_str (pa_cons pe_str (pa_cons pe_str (pa_cons pe_str (pa_cons pe_str pa_nil))))))))))) (blkOk_by (own := [("_law_sign", 8)]) (N := ["_law_box_here", "_law_some", "_law_word", "_law_at", "_law_front", "_law_back", "_law_size", "_law_turn", "_law_sign"]) (sc := defScope sWords) (by decide +kernel)) (fun _ _ _ _ _ => (pg_name (i := 8) scV.nd rfl (Or.inl rfl))) (fun _ _ _ _ _ => pts_nil) (fun _ _ _ _ _ => (pe_op op_add_str (pe_op op_add_str (pe_slice sl_str (pv 2) po_none (po_some (pv 3))) (pv 8)) (pe_slice sl_str (pv 2) (po_some (pe_op op_add (pv 3) pe_int)) po_none)))) pa_nil))))))))
      (pss_one (ps_ret (pv 1)))))), ?_⟩
    have hsp : Txt.split "\x69mport template list document let new for in where give if then else number text" " " = ws := by decide +kernel
    refine ⟨⟨_, rfl⟩, _, _, rfl, rfl, rfl, by decide +kernel, ?_⟩
    rw [hsp]
    intro S nS
    have bS := hB.ne nS
    refine ⟨.ref S, rfl, S, _, rfl, .inl (SqL.of upd_same), fun L nL => ⟨L, rfl, ⟨_, SqL.of upd_same⟩, ?_⟩⟩
    have hB1 := hB.new (u := .lst (ws.map V.str)) bS
    have bL := hB1.ne nL
    have SL : S ≠ L := ne_of_none upd_same nL
    refine for_list (xs := ws.map V.str) (fun i σ H2 => ∃ zs y2 y3 y4 y5 y6 y7 y8, σ = [some (.ref b), some (.ref S), y2, y3, y4, y5, y6, y7, y8] ∧ Off b H H2 ∧ Box H2 b (n + i) ∧ H2 S = some (.lst (zs.map V.str)) ∧ Short zs ∧ zs.length = 15 + 5 * i ∧ H2 L = some (.lst (ws.map V.str)))
      ⟨ws, _, _, _, _, _, _, _, rfl, (Off.new nS).trans (Off.new nL), hB1.new bL, ?_, fun z hz => (ws_fine z hz).1.mono (by decide), rfl, upd_same⟩ (fun i σ H2 _ h => ?_) (fun i x σ H2 hx h => ?_) (fun σ H2 h => ?_)
    · rw [upd_ne SL]
      exact upd_same
    · obtain ⟨_, _, _, _, _, _, _, _, _, _, _, _, _, _, h⟩ := h
      exact SqL.of h
    · obtain ⟨zs, y2, y3, y4, y5, y6, y7, y8, rfl, off, hB2, hS2, sh, lz, hL2⟩ := h
      obtain ⟨z, hz, rfl⟩ := at_str hx
      obtain ⟨l1, l2⟩ := ws_len z (List.mem_of_getElem? hz)
      have hi : i < 15 := (List.getElem?_eq_some_iff.mp hz).1
      have zl : z.length ≤ sizeLine := Nat.le_of_lt (small1000 (by omega))
      refine ⟨.ref b, rfl, .str z, rfl, z, rfl, zl, b, z.length, n + i, rfl, hB2, by omega, by omega, by omega, fun r u r0 r1 hB3 => ?_⟩
      refine ⟨.str z, rfl, .int r, rfl, r, rfl, z, rfl, zl, .str z, rfl, .int r, rfl, r, 1, rfl, rfl, _, rfl, z, rfl, zl, _, _, rfl, ?_⟩
      have c1 := cutS_length z none (some r)
      have c2 := cutS_length z (some (r + 1)) none
      have up := PyProof.Rows.len_upper z
      obtain ⟨f1, f2⟩ := ws_fine z (List.mem_of_getElem? hz)
      have g1 := f1.cut none (some r)
      have g2 := f1.cut (some (r + 1)) none
      generalize hf : cutS z none (some r) = fr at c1 g1
      dsimp only
      generalize hk : cutS z (some (r + 1)) none = bk at c2 g2
      have S3 : (upd H2 b u) S = some (.lst (zs.map V.str)) := by
        rw [upd_ne bS]
        exact hS2
      have big : ∀ m : Nat, m ≤ 1000 → m ≤ sizeLine := fun m h => Nat.le_of_lt (small1000 h)
      have one : ∀ c : Nat, (Str.mk #[c]).length = 1 := fun _ => rfl
      refine ⟨.ref S, rfl, .inl ⟨rfl, _, SqL.of S3⟩, .str z, rfl, z, "x", rfl, rfl, big _ (by show z.length + 1 ≤ 1000; omega), .str fr, rfl, .str bk, rfl, fr, bk, rfl, rfl, big _ (by omega), .str fr, rfl, fr, "q", rfl, rfl, big _ (by show fr.length + 1 ≤ 1000; omega), .str bk, rfl, fr ++ "q", bk, rfl, rfl, big _ (by rw [len_app]; show fr.length + 1 + _ ≤ 1000; omega),
        .str z, rfl, ⟨_, rfl⟩, z, rfl, rfl, by omega, .str z, rfl, z, " ", rfl, rfl, big _ (by show z.length + 1 ≤ 1000; omega), by show 5 ≤ sizeLine; decide, fun E nE => ?_⟩
      have bE := hB3.ne nE
      have SE : S ≠ E := ne_of_none S3 nE
      refine ⟨S, E, _, _, rfl, rfl, by rw [upd_ne SE]; exact S3, upd_same, by rw [List.length_map]; show zs.length + 5 ≤ sizeLine; exact big _ (by omega), ?_⟩
      refine ⟨zs ++ [z ++ "x", fr ++ bk, fr ++ "q" ++ bk, Txt.upper z, z ++ " "], _, _, _, _, _, _, _, rfl, ((off.trans Off.box).trans (Off.new nE)).put nS, (hB3.new bE).new bS, ?_, sh.app ?_, ?_, ?_⟩
      · rw [upd_same, List.map_append]
        rfl
      · have x1 : ∀ c : Nat, c < 16 ^ 8 → Fine 1 ⟨#[c]⟩ := fun c hc => ⟨Nat.le_refl _, fun d hd => by
          have : d = c := by simpa using hd
          omega⟩
        exact allc ((f1.app (x1 120 (by decide))).mono (by decide)) (allc ((g1.app g2).mono (by decide)) (allc (((g1.app (x1 113 (by decide))).app g2).mono (by decide)) (allc (f2.mono (by decide)) (allc ((f1.app (x1 32 (by decide))).mono (by decide)) alln))))
      · rw [List.length_append, lz]
        show 15 + 5 * i + 5 = _
        omega
      · rw [upd_ne SL.symm, upd_ne (ne_of_none hL2 (by
          cases e : H2 E with
          | none => rfl
          | some o =>
            by_cases eb : E = b
            · exact absurd eb bE
            · rw [upd_ne eb, e] at nE
              cases nE)), upd_ne bL]
        exact hL2
    · obtain ⟨zs, y2, y3, y4, y5, y6, y7, y8, rfl, off, hB2, hS2, sh, lz, hL2⟩ := h
      have e15 : (ws.map V.str).length = 15 := rfl
      rw [e15] at hB2 lz
      clear hL2 bL SL nL hB1
      refine ⟨.ref b, rfl, b, 14, n + 15, rfl, hB2, by omega, by decide, by decide, fun r u r0 r1 hB3 => ⟨1, r, rfl, rfl, by show 5 ≤ sizeLine; decide, fun U nU => ⟨U, rfl, ⟨_, SqT.of upd_same⟩, ?_⟩⟩⟩
      have S3 : (upd H2 b u) S = some (.lst (zs.map V.str)) := by
        rw [upd_ne bS]
        exact hS2
      have bU := hB3.ne nU
      have off3 : Off b H (upd H2 b u) := off.trans Off.box
      have U4 : (upd (upd H2 b u) U (.tup [.int 1, .int 11, .int 12, .int 13, .int (1 + r)])) U = some (.tup [.int 1, .int 11, .int 12, .int 13, .int (1 + r)]) := upd_same
      have S4 := same_new (o := .tup [.int 1, .int 11, .int 12, .int 13, .int (1 + r)]) nU _ _ S3
      have off4 : Off b H (upd (upd H2 b u) U (.tup [.int 1, .int 11, .int 12, .int 13, .int (1 + r)])) := off3.trans (Off.new nU)
      have hB4 := hB3.new (u := .tup [.int 1, .int 11, .int 12, .int 13, .int (1 + r)]) bU
      generalize upd (upd H2 b u) U (.tup [.int 1, .int 11, .int 12, .int 13, .int (1 + r)]) = H4 at U4 S4 off4 hB4
      have szs : ∀ (i : Nat) (x : V), [V.int 1, .int 11, .int 12, .int 13, .int (1 + r)][i]? = some x → i < 5 ∧ ∃ m : Nat, x = .int (m : Int) ∧ 1 ≤ m ∧ m ≤ 14 := fun i x hx => by
        refine ⟨(List.getElem?_eq_some_iff.mp hx).1, ?_⟩
        exact allc (Pr := fun x => ∃ m : Nat, x = .int (m : Int) ∧ 1 ≤ m ∧ m ≤ 14) ⟨1, rfl, by decide, by decide⟩ (allc ⟨11, rfl, by decide, by decide⟩ (allc ⟨12, rfl, by decide, by decide⟩ (allc ⟨13, rfl, by decide, by decide⟩ (allc ⟨(1 + r).toNat, by congr 1; omega, by omega, by omega⟩ alln)))) x (List.mem_of_getElem? hx)
      refine for_tup (xs := [.int 1, .int 11, .int 12, .int 13, .int (1 + r)]) (fun i σ H5 => ∃ zs y2 y3 y4 y5 y6 y7 y8, σ = [some (.ref b), some (.ref S), y2, y3, y4, y5, y6, y7, y8] ∧ Off b H H5 ∧ Box H5 b (n + 16 + 15 * i) ∧ H5 S = some (.lst (zs.map V.str)) ∧ Short zs ∧ zs.length = 90 + 10 * i ∧ H5 U = some (.tup [.int 1, .int 11, .int 12, .int 13, .int (1 + r)]))
        ⟨zs, _, _, _, _, _, _, _, rfl, off4, hB4, S4, sh, lz, U4⟩ (fun i σ H5 _ h => ?_) (fun i x σ H5 hx h => ?_) (fun σ H5 h => ?_)
      · obtain ⟨_, _, _, _, _, _, _, _, _, _, _, _, _, _, h⟩ := h
        exact SqT.of h
      · obtain ⟨zs, y2, y3, y4, y5, y6, y7, y8, rfl, off, hB5, hS5, sh, lz, hU5⟩ := h
        obtain ⟨hi, m, rfl, m1, m2⟩ := szs i x hx
        have big : ∀ m : Nat, m ≤ 1000 → m ≤ sizeLine := fun m h => Nat.le_of_lt (small1000 h)
        refine ⟨⟨_, rfl⟩, .int m, rfl, (m : Int), rfl, by omega, by omega, fun D nD => ?_⟩
        have bD := hB5.ne nD
        refine lc_range (lo := 0) (n := (m : Int).toNat) (fun j H6 => ∃ ys : List Str, H6 D = some (.lst (ys.map V.str)) ∧ ys.length = j ∧ (∀ y ∈ ys, y.length = 1 ∧ ∀ c ∈ y.cps.toList, c < 16 ^ 8) ∧ Off b H5 H6 ∧ Box H6 b (n + 16 + 15 * i + j)) ⟨[], upd_same, rfl, alln, Off.new nD, hB5.new bD⟩ (fun j H6 hj hP => ?_) (fun H6 hP => ?_)
        · obtain ⟨ys, hD6, ly, oy, off6, hB6⟩ := hP
          refine ⟨rfl, .ref b, rfl, "abcxyz", rfl, by decide, fun l nl => ?_⟩
          have bl := hB6.ne nl
          refine ⟨b, l, _, _, rfl, upd_same, bl, hB6.new bl, by omega, by decide, by decide, fun x u2 hx2 hB7 => ?_⟩
          obtain ⟨c, hc, rfl⟩ := List.mem_map.mp hx2
          have hc8 : c < 16 ^ 8 := (show ∀ c ∈ ("abcxyz" : Str).cps.toList, c < 16 ^ 8 by decide +kernel) c hc
          refine ⟨_, by rw [upd_ne bD, upd_ne (ne_of_none hD6 nl)]; exact hD6, by rw [List.length_map]; exact small1000 (by omega), ys ++ [⟨#[c]⟩], ?_, ?_, ?_, ((off6.trans (Off.new nl)).trans Off.box).put nD, hB7.new bD⟩
          · rw [upd_same, List.map_append]
            rfl
          · rw [List.length_append, ly]
            rfl
          · intro y hy
            rcases List.mem_append.mp hy with hy | hy
            · exact oy y hy
            · have : y = ⟨#[c]⟩ := by simpa using hy
              rw [this]
              refine ⟨rfl, fun d hd => ?_⟩
              have : d = c := by simpa using hd
              omega
        · obtain ⟨ys, hD6, ly, oy, off6, hB6⟩ := hP
          rw [Int.toNat_natCast] at ly hB6
          have sm := sum_one ys fun y hy => (oy y hy).1
          have jl := join_le "" ys
          refine ⟨_, D, ys, rfl, rfl, .inl (SqL.of hD6), by rw [sm]; show ys.length + ys.length * 0 ≤ _; omega, ?_⟩
          have jl : (Txt.join "" ys).length ≤ 14 := Nat.le_trans jl (by rw [sm]; show ys.length + ys.length * 0 ≤ 14; omega)
          have fw : Fine 14 (Txt.join "" ys) := ⟨jl, fun c hc => by
            rw [show Txt.join "" ys = Str.join "" ys from StrLaws.glued_eq_join _ _] at hc
            rcases join_mem "" ys c hc with h | ⟨y, hy, h⟩
            · exact absurd h (show c ∉ ([] : List Nat) by simp)
            · exact (oy y hy).2 c h⟩
          generalize Txt.join "" ys = wd at jl fw
          have S6 := off6 _ _ bS hS5
          have U6 := off6 U _ (fun e => by
            obtain ⟨o1, o2, o3, ho, _⟩ := hB5
            rw [e, ho] at hU5
            cases hU5) hU5
          have ub : U ≠ b := fun e => by
            obtain ⟨o1, o2, o3, ho, _⟩ := hB5
            rw [e, ho] at hU5
            cases hU5
          have off6 : Off b H H6 := off.trans off6
          clear hD6 nD bD
          refine ⟨.ref b, rfl, .int m, rfl, b, (m : Int), _, rfl, hB6, by omega, by omega, by omega, fun r2 u2 s0 s1 hB7 => ?_⟩
          have S7 : (upd H6 b u2) S = some (.lst (zs.map V.str)) := by
            rw [upd_ne bS]
            exact S6
          have U7 : (upd H6 b u2) U = some (.tup [.int 1, .int 11, .int 12, .int 13, .int (1 + r)]) := by
            rw [upd_ne ub]
            exact U6
          have off7 : Off b H (upd H6 b u2) := off6.trans Off.box
          generalize upd H6 b u2 = H7 at hB7 S7 U7 off7
          have SU : U ≠ S := ne_of U7 S7 (by intro z; cases z)
          refine ⟨.ref S, rfl, .inl ⟨rfl, _, SqL.of S7⟩, .str wd, rfl, S, _, _, rfl, rfl, S7, by rw [List.length_map]; exact small1000 (by omega), ?_⟩
          have S8 : (upd H7 S (.lst (zs.map V.str ++ [.str wd]))) S = some (.lst ((zs ++ [wd]).map V.str)) := by
            rw [upd_same, List.map_append]
            rfl
          have U8 : (upd H7 S (.lst (zs.map V.str ++ [.str wd]))) U = some (.tup [.int 1, .int 11, .int 12, .int 13, .int (1 + r)]) := by
            rw [upd_ne SU]
            exact U7
          have hB8 := hB7.new (u := .lst (zs.map V.str ++ [.str wd])) bS
          have off8 : Off b H (upd H7 S (.lst (zs.map V.str ++ [.str wd]))) := off7.put nS
          generalize upd H7 S (.lst (zs.map V.str ++ [.str wd])) = H8 at hB8 S8 U8 off8
          refine ⟨.ref S, rfl, .inl ⟨rfl, _, SqL.of S8⟩, by show 9 ≤ sizeLine; decide, fun G nG => ⟨G, rfl, ⟨_, SqL.of upd_same⟩, fun D nD => ?_⟩⟩
          have bG := hB8.ne nG
          have hB9 := hB8.new (u := .lst (sg9.map V.str)) bG
          have bD := hB9.ne nD
          refine lc_list (xs := sg9.map V.str) (fun j H9 => ∃ ys : List Str, H9 D = some (.lst (ys.map V.str)) ∧ ys.length = j ∧ Short ys ∧ Same (upd H8 G (.lst (sg9.map V.str))) H9) ⟨[], upd_same, rfl, alln, same_new nD⟩
            (fun j H9 _ ⟨_, _, _, _, sm⟩ => SqL.of (sm _ _ upd_same)) (fun j x H9 hx hP => ?_) (fun H9 hP => ?_)
          · obtain ⟨ys, hD9, ly, sy, sm9⟩ := hP
            obtain ⟨sg, hsg, rfl⟩ := at_str hx
            have l1 : sg.length = 1 := allc (Pr := fun z : Str => z.length = 1) rfl (allc rfl (allc rfl (allc rfl (allc rfl (allc rfl (allc rfl (allc rfl (allc rfl alln)))))))) sg (List.mem_of_getElem? hsg)
            have hj : j < 9 := (List.getElem?_eq_some_iff.mp hsg).1
            have c1 := cutS_length wd none (some r2)
            have c2 := cutS_length wd (some (r2 + 1)) none
            refine ⟨rfl, .str wd, rfl, .int r2, rfl, r2, rfl, wd, rfl, big _ (by omega), .str sg, rfl, _, sg, rfl, rfl, big _ (by omega), .str wd, rfl, .int r2, rfl, r2, 1, rfl, rfl, _, rfl, wd, rfl, big _ (by omega), _, _, rfl, rfl, big _ (by rw [len_app]; omega), _, hD9, by rw [List.length_map]; exact small1000 (by omega),
              ys ++ [cutS wd none (some r2) ++ sg ++ cutS wd (some (r2 + 1)) none], ?_, ?_, sy.app ?_, same_put sm9 nD⟩
            · rw [upd_same, List.map_append]
              rfl
            · rw [List.length_append, ly]
              rfl
            · exact allc ((((fw.cut none (some r2)).app (sg9_fine sg (List.mem_of_getElem? hsg))).app (fw.cut (some (r2 + 1)) none)).mono (by decide)) alln
          · obtain ⟨ys, hD9, ly, sy, sm9⟩ := hP
            have e9 : (sg9.map V.str).length = 9 := rfl
            rw [e9] at ly
            have smG := same_new (o := .lst (sg9.map V.str)) nG
            have S9 := sm9 _ _ (smG _ _ S8)
            have U9 := sm9 _ _ (smG _ _ U8)
            refine ⟨S, D, _, _, rfl, rfl, S9, hD9, by rw [List.length_map, List.length_map, List.length_append]; show zs.length + 1 + _ ≤ sizeLine; exact big _ (by omega), ?_⟩
            refine ⟨(zs ++ [wd]) ++ ys, _, _, _, _, _, _, _, rfl, (off8.trans (fun a o _ h => sm9 a o (smG a o h))).put nS, ?_, ?_, (sh.app (allc (fw.mono (by decide)) alln)).app sy, ?_, ?_⟩
            · refine Box.new (Box.mono (n := n + 16 + 15 * i + m + 1) ?_ (by omega)) bS
              obtain ⟨o1, o2, o3, ho, hh⟩ := hB8
              exact ⟨o1, o2, o3, sm9 _ _ (smG _ _ ho), hh⟩
            · rw [upd_same, ← List.map_append]
            · rw [List.length_append, List.length_append, ly, lz]
              show 90 + 10 * i + 1 + 9 = _
              omega
            · rw [upd_ne SU]
              exact U9
      · obtain ⟨zs, y2, y3, y4, y5, y6, y7, y8, rfl, off, hB5, hS5, sh, lz, hU5⟩ := h
        have e5 : [V.int 1, .int 11, .int 12, .int 13, .int (1 + r)].length = 5 := rfl
        rw [e5] at hB5 lz
        exact ⟨.ref S, rfl, q H5 S zs off (hB5.mono (by omega)) nS hS5 sh (by omega)⟩
end
end M01

set_option Elab.async false
set_option linter.all false
set_option maxRecDepth 100000
set_option maxHeartbeats 8000000
/-! right, and the law -/
namespace M01
open PySem PySem.Spec PyProof.Rows L2 GL
theorem scR : FnScope ["_law_box_here", "_law_thing", "_law_kept", "_law_due", "_law_turn"] ["_law_box_here"] (defScope sRight) := ⟨rfl, rfl, rfl, by decide +kernel, rfl, by decide +kernel, by decide +kernel⟩
theorem scL : FnScope ["_law_script", "_law_k"] ["_law_script"] (defScope sLaw) := ⟨rfl, rfl, rfl, by decide +kernel, rfl, by decide +kernel, by decide +kernel⟩
theorem fine_any {K : PySem.W.Frag} {H : Hp} {z : Str} (h : Fine 100 z) : AnyD K H 6 (.str z) := by
  refine ⟨_, .str z, ⟨rfl, by show 0 ≤ 10; decide, ?_⟩, fun _ e => by cases e; have := h.1; omega⟩
  have := StrLaws.reprText_len z h.2
  have := h.1
  show (reprText z).length ≤ _
  omega
section
variable {P : Program} {w : World} {K : PySem.W.Frag} {mg : Str → Option Value} {base : Heap}
def gK : List V → List V → List V
  | [], [v] => [v]
  | _, _ => []
def gKv : List Value → List Value → List Value
  | [], [v] => [v]
  | _, _ => []
theorem gK_rel : ∀ {vs : List V} {us : List Value} {zs : List V} {ws : List Value}, Vals vs us → Vals zs ws → Vals (gK vs zs) (gKv us ws)
  | _, _, _, _, .cons _ _, _ => .nil
  | _, _, _, _, .nil, .nil => .nil
  | _, _, _, _, .nil, .cons p .nil => .cons p .nil
  | _, _, _, _, .nil, .cons _ (.cons _ _) => .nil
theorem showB (a b : Bool) : (PyData.list [.bool a, .bool b]).showable = true ∧ (PyData.list [.bool a, .bool b]).depth ≤ 60 ∧ (PyData.list [.bool a, .bool b]).shown.length ≤ sizeLine := by
  cases a <;> cases b <;> decide +kernel
def spRight : Sp := fun vs H Q _ => ∃ (b : Addr) (n : Nat), vs = [.ref b] ∧ Box H b n ∧ n + 1000 < 1000000 ∧ ∀ H', Off b H H' → Q (.bl true) H'
theorem ok_right {f : Addr} {fd : FuncData} (F : Fun K "_law_right" "_law_right" sRight f fd) (T : Bl K mg) (d_words : DnG P w K mg base "_law_words" 3 ["_law_box_here"] spWords) (d_any : DnG P w K mg base "_law_any" 3 ["_law_box_here"] (spAny K))
    (d_law_is_name : DnG P w K mg base "_law_is_name" 1 ["_law_word"] (spName K)) (d_is_name : DnG P w K mg base "is_name" 2 ["value"] (spName K)) (kbN : KBinds K d_is_name.fd ["value"] ["value"] gKv gK) :
    FnG P w K mg base CX0 4 f fd ["_law_box_here"] spRight := by
  refine okG0 F scR (fun vs H Q E h => ?_) (fun cdv A outer s H vs Q E hr hG h => ?_)
  · obtain ⟨b, n, rfl, _⟩ := h
    rfl
  · obtain ⟨b, n, rfl, hB, hn, q⟩ := h
    refine ⟨_, (pss_cons (ps_for PassesOwn.never rfl (pi_list (pe_op op_cat (pe_op op_cat (pe_callG d_words.ok (hr.mono (by decide)) hG (by rfl) d_words.g d_words.kp d_words.b .nil pass0 (pa_cons (pv 0) pa_nil)) (pe_lc (own := [("_law_turn", 4)]) (g := gName 4) (by rfl) scR.nd (pi_range1 (by rfl) T.range (pa_cons pe_int pa_nil)) (blkOk_by (own := [("_law_turn", 4)]) (N := ["_law_box_here", "_law_thing", "_law_kept", "_law_due", "_law_turn"]) (sc := defScope sRight) (by decide +kernel)) (fun _ _ _ _ _ => (pg_name (i := 4) scR.nd rfl (Or.inl rfl))) (fun _ _ _ _ _ => pts_nil) (fun _ _ _ _ _ => (pe_callG d_any.ok (hr.mono (by decide)) hG (by rfl) d_any.g d_any.kp d_any.b .nil pass0 (pa_cons (pv 0) pa_nil))))) (pe_lstB (pa_cons (pe_tup (pa_cons pe_str pa_nil)) (pa_cons (pe_lstB (pa_cons pe_str pa_nil)) (pa_cons (pe_disp (pps_cons pe_str pe_int pps_nil) (by rfl) (by rfl) (fun z => by cases z) (by decide)) pa_nil)))))) (pg_name (i := 1) scR.nd rfl (Or.inl rfl))
        (pss_cons (ps_par (i := 2) (j := 3) (by rfl) scR.nd rfl rfl (by decide) rfl rfl (pa_cons (pe_callB (r := rRepr K) (call_reprD hG hr.units) (by rfl) T.repr (by decide +kernel) (pa_cons (pv 1) pa_nil)) (pa_cons (pe_callG d_law_is_name.ok (hr.mono (by decide)) hG (by rfl) d_law_is_name.g d_law_is_name.kp d_law_is_name.b .nil pass0 (pa_cons (pv 1) pa_nil)) pa_nil)) (by rfl))
        (pss_one (ps_if (PW.pt (pw_or (pt_cmpR op_ne (pe_callB (r := rRepr K) (call_reprD hG hr.units) (by rfl) T.repr (by decide +kernel) (pa_cons (pe_lstB (pa_cons (pe_callG d_is_name.ok (hr.mono (by decide)) hG (by rfl) d_is_name.g d_is_name.kp d_is_name.b .nil pass0 (pa_cons (pv 1) pa_nil)) (pa_cons (pe_callK0G d_is_name.ok (hr.mono (by decide)) hG (by rfl) d_is_name.g d_is_name.kp kbN pass0 (pk_cons (pv 1) pk_nil)) pa_nil))) pa_nil)) (pe_callB (r := rRepr K) (call_reprD hG hr.units) (by rfl) T.repr (by decide +kernel) (pa_cons (pe_lstB (pa_cons (pv 3) (pa_cons (pv 3) pa_nil))) pa_nil)) (nomark _)) (pw_or1 (pt_cmpR op_ne (pe_callB (r := rRepr K) (call_reprD hG hr.units) (by rfl) T.repr (by decide +kernel) (pa_cons (pv 1) pa_nil)) (pv 2) (nomark _)))))
          (pss_one (ps_ret pe_bl))
          pss_nil))))
      (pss_one (ps_ret pe_bl))), ?_⟩
    refine ⟨.ref b, rfl, b, n, rfl, hB, by omega, fun H1 W zs off1 hB1 nW hW sh lz => ?_⟩
    have bW := hB.ne nW
    refine ⟨40, rfl, by decide, by decide, fun D nD => ?_⟩
    have bD := hB1.ne nD
    have hb0 : ∃ u, (upd H1 D (.lst [])) b = some u := by
      obtain ⟨_, _, _, hb, _⟩ := hB1
      exact ⟨_, by rw [upd_ne bD.symm]; exact hb⟩
    obtain ⟨ub, hb0⟩ := hb0
    refine lc_range (lo := 0) (n := 40) (fun j H2 => ∃ xs : List V, H2 D = some (.lst xs) ∧ xs.length = j ∧ (∀ x ∈ xs, AnyD K (Nw (upd H1 D (.lst [])) H2) 6 x) ∧ Off b H1 H2 ∧ Box H2 b (n + 300 + 10 * j)) ⟨[], upd_same, rfl, alln, Off.new nD, hB1.new bD⟩ (fun j H2 hj hP => ?_) (fun H2 hP => ?_)
    · obtain ⟨xs, hD, lx, ax, off2, hB2⟩ := hP
      refine ⟨rfl, .ref b, rfl, b, _, rfl, hB2, by omega, fun H3 v off3 hB3 av => ?_⟩
      have hD3 := off3 _ _ bD hD
      refine ⟨_, hD3, small1000 (by omega), xs ++ [v], upd_same, by rw [List.length_append, lx]; rfl, fun x hx => ?_, (off2.trans off3).put nD, hB3.new bD⟩
      rcases List.mem_append.mp hx with hx | hx
      · exact ((ax x hx).same (Off.nw hb0 off3)).same (Nw.put upd_same)
      · have : x = v := by simpa using hx
        subst this
        refine (av.same (Nw.mono fun a ha => ?_)).same (Nw.put upd_same)
        by_cases e1 : a = D
        · rw [e1, hD] at ha
          cases ha
        · rw [upd_ne e1]
          exact off2.fresh hB2 ha
    · obtain ⟨xs, hD, lx, ax, off2, hB2⟩ := hP
      have ax : ∀ x ∈ xs, AnyD K H2 6 x := fun x hx => (ax x hx).same (Nw.same _ _)
      have hW2 := off2 _ _ bW hW
      have off2 : Off b H H2 := off1.trans off2
      clear hb0 bD nD
      have big : ∀ m : Nat, m ≤ 1000 → m ≤ sizeLine := fun m h => Nat.le_of_lt (small1000 h)
      refine ⟨W, D, _, _, rfl, rfl, hW2, hD, by rw [List.length_map]; exact big _ (by omega), fun M nM => ?_⟩
      refine ⟨by show 1 ≤ sizeLine; decide, fun p1 n1 => ⟨by show 1 ≤ sizeLine; decide, fun p2 n2 s2 => fun p3 n3 => ⟨upd_same, [(Sum.inr "box", .int 1)], rfl, by decide, by show 3 ≤ sizeLine; decide, fun G nG sG => ?_⟩⟩⟩
      have z1 := same_new (o := .lst (zs.map V.str ++ xs)) nM
      have z2 := same_new (o := .tup [.str "box"]) n1
      have z3 := same_new (o := .lst [.str "box"]) n2
      have z4 := same_put (same_new (o := .dK []) n3) (o := .dK (mergeK [] [(Sum.inr "box", .int 1)])) n3
      have z5 := same_new (o := .lst [.ref p1, .ref p2, .ref p3]) nG
      have e1 := (DV.tup (K := K) (SqT.of (upd_same (H := upd H2 M (.lst (zs.map V.str ++ xs))) (o := .tup [.str "box"]))) (.cons (.str _) .nil)).same (z3.trans (z4.trans z5))
      have e2 := (DV.lst (K := K) (SqL.of (upd_same (H := upd (upd H2 M (.lst (zs.map V.str ++ xs))) p1 (.tup [.str "box"])) (o := .lst [.str "box"]))) s2 (.cons (.str _) .nil)).same (z4.trans z5)
      have e3 := (DV.dct (K := K) (.inl (upd_same (H := upd (upd (upd (upd H2 M (.lst (zs.map V.str ++ xs))) p1 (.tup [.str "box"])) p2 (.lst [.str "box"])) p3 (.dK [])) (o := .dK (mergeK [] [(Sum.inr "box", .int 1)])))) (.cons (k := Sum.inr "box") (.int 1) .nil)).same z5
      have hM := z5 _ _ (z4 _ _ (z3 _ _ (z2 _ _ (upd_same (H := H2) (a := M) (o := .lst (zs.map V.str ++ xs))))))
      have zz := z1.trans (z2.trans (z3.trans (z4.trans z5)))
      refine ⟨M, G, _, _, rfl, rfl, hM, upd_same, by rw [List.length_append, List.length_map]; show zs.length + xs.length + 3 ≤ sizeLine; exact big _ (by omega), fun R nR => ⟨R, rfl, ⟨_, SqL.of upd_same⟩, ?_⟩⟩
      have g : ∀ d : PyData, d.showable = true → d.depth ≤ 4 → d.shown.length ≤ 100 → Good 6 d := fun d h1 h2 h3 => ⟨h1, by omega, by omega⟩
      have all : ∀ x ∈ (zs.map V.str ++ xs) ++ [.ref p1, .ref p2, .ref p3], AnyD K (upd (upd (upd (upd (upd (upd H2 M (.lst (zs.map V.str ++ xs))) p1 (.tup [.str "box"])) p2 (.lst [.str "box"])) p3 (.dK [])) p3 (.dK (mergeK [] [(Sum.inr "box", .int 1)]))) G (.lst [.ref p1, .ref p2, .ref p3])) 6 x := fun x hx => by
        rcases List.mem_append.mp hx with hx | hx
        · rcases List.mem_append.mp hx with hx | hx
          · obtain ⟨z, hz, rfl⟩ := List.mem_map.mp hx
            exact fine_any (sh z hz)
          · exact (ax x hx).same zz
        · exact allc (any_obj e1 (g _ rfl (by decide) (by decide +kernel))) (allc (any_obj e2 (g _ rfl (by decide) (by decide +kernel))) (allc (any_obj e3 (g _ rfl (by decide) (by decide +kernel))) alln)) x hx
      have all := fun x hx => (all x hx).same (same_new (o := .lst ((zs.map V.str ++ xs) ++ [.ref p1, .ref p2, .ref p3])) nR)
      have off3 : Off b H _ := off2.trans (fun a o _ h => same_new (o := .lst ((zs.map V.str ++ xs) ++ [.ref p1, .ref p2, .ref p3])) nR a o (zz a o h))
      have hR : (upd (upd (upd (upd (upd (upd (upd H2 M (.lst (zs.map V.str ++ xs))) p1 (.tup [.str "box"])) p2 (.lst [.str "box"])) p3 (.dK [])) p3 (.dK (mergeK [] [(Sum.inr "box", .int 1)]))) G (.lst [.ref p1, .ref p2, .ref p3])) R (.lst ((zs.map V.str ++ xs) ++ [.ref p1, .ref p2, .ref p3]))) R = some (.lst ((zs.map V.str ++ xs) ++ [.ref p1, .ref p2, .ref p3])) := upd_same
      clear e1 e2 e3 hM zz z1 z2 z3 z4 z5
      generalize upd (upd (upd (upd (upd (upd (upd H2 M (.lst (zs.map V.str ++ xs))) p1 (.tup [.str "box"])) p2 (.lst [.str "box"])) p3 (.dK [])) p3 (.dK (mergeK [] [(Sum.inr "box", .int 1)]))) G (.lst [.ref p1, .ref p2, .ref p3])) R (.lst ((zs.map V.str ++ xs) ++ [.ref p1, .ref p2, .ref p3])) = H3 at all off3 hR
      generalize (zs.map V.str ++ xs) ++ [.ref p1, .ref p2, .ref p3] = ts at all hR
      refine for_list (xs := ts) (fun i σ H4 => ∃ y1 y2 y3 y4, σ = [some (.ref b), y1, y2, y3, y4] ∧ Same H3 H4) ⟨_, _, _, _, rfl, Same.refl _⟩ (fun i σ H4 _ ⟨_, _, _, _, _, sm⟩ => SqL.of (sm _ _ hR)) (fun i x σ H4 hx hP => ?_) (fun σ H4 hP => ?_)
      · obtain ⟨y1, y2, y3, y4, rfl, sm4⟩ := hP
        have ad : AnyD K H4 6 x := (all x (List.mem_of_getElem? hx)).same sm4
        obtain ⟨d, hd, ⟨g1, g2, g3⟩, _⟩ := id ad
        have g2 : d.depth ≤ 60 := by omega
        have g3 : d.shown.length ≤ sizeLine := Nat.le_trans g3 (by decide)
        refine ⟨x, rfl, x, d, rfl, hd, g1, g2, g3, x, rfl, x, rfl, ad.any, fun H5 sm5 => ⟨_, _, rfl, ?_⟩⟩
        have ad5 := ad.same sm5
        refine ⟨x, rfl, x, rfl, ad5.any, fun H6 sm6 => ⟨x, rfl, x, rfl, (ad5.same sm6).any, fun H7 sm7 => ⟨by show 2 ≤ sizeLine; decide, fun l nl sl => ?_⟩⟩⟩
        obtain ⟨t1, t2, t3⟩ := showB (nameV x) (nameV x)
        refine ⟨.ref l, .list [.bool (nameV x), .bool (nameV x)], rfl, .lst (SqL.of upd_same) sl (.cons (.bl _) (.cons (.bl _) .nil)), t1, t2, t3, ?_⟩
        refine ⟨.bl (nameV x), rfl, .bl (nameV x), rfl, by show 2 ≤ sizeLine; decide, fun l2 nl2 sl2 => ⟨.ref l2, .list [.bool (nameV x), .bool (nameV x)], rfl, .lst (SqL.of upd_same) sl2 (.cons (.bl _) (.cons (.bl _) .nil)), t1, t2, t3, rfl, _, rfl, iteNS rfl ?_⟩⟩
        have sm8 := ((sm5.trans sm6).trans sm7).trans ((same_new (o := .lst [.bl (nameV x), .bl (nameV x)]) nl).trans (same_new (o := .lst [.bl (nameV x), .bl (nameV x)]) nl2))
        refine ⟨x, rfl, x, d, rfl, hd.same sm8, g1, g2, g3, .str d.shown, rfl, rfl, _, rfl, iteNS rfl ?_⟩
        exact ⟨_, _, _, _, rfl, sm4.trans sm8⟩
      · obtain ⟨y1, y2, y3, y4, rfl, sm4⟩ := hP
        exact q H4 (off3.trans fun a o _ h => sm4 a o h)

def spLaw (K : PySem.W.Frag) : Sp := fun vs H Q _ => ∃ (a : Addr) (ns : List Int), vs = [.ref a] ∧ SqL K H a (ns.map V.int) ∧ ns.length ≤ 63 ∧ ∀ H', Q (.bl true) H'
theorem ok_law {f : Addr} {fd : FuncData} (F : Fun K "law" "law" sLaw f fd) (T : Bl K mg) (d_box : DnG P w K mg base "_law_box" 1 ["_law_script", "_law_k"] (spBox K)) (d_right : DnG P w K mg base "_law_right" 4 ["_law_box_here"] spRight) :
    FnG P w K mg base CX0 5 f fd ["_law_script"] (spLaw K) := by
  refine okG0 F scL (fun vs H Q E h => ?_) (fun cdv A outer s H vs Q E hr hG h => ?_)
  · obtain ⟨a, ns, rfl, _⟩ := h
    rfl
  · obtain ⟨a, ns, rfl, hS, hlen, q⟩ := h
    refine ⟨_, (pss_one (ps_ret (pe_callB (cr_all rfl) (by rfl) T.all (by decide +kernel) (pa_cons (pe_lc (own := [("_law_k", 1)]) (g := gName 1) (by rfl) scL.nd (pi_range1 (by rfl) T.range (pa_cons (pe_callB (call_max2 rfl) (by rfl) T.max (by decide +kernel) (pa_cons pe_int (pa_cons (pe_callB (call_min2 rfl) (by rfl) T.min (by decide +kernel) (pa_cons pe_int (pa_cons (pe_callB call_len_seq (by rfl) T.len (by decide +kernel) (pa_cons (pv 0) pa_nil)) pa_nil))) pa_nil))) pa_nil)) (blkOk_by (own := [("_law_k", 1)]) (N := ["_law_script", "_law_k"]) (sc := defScope sLaw) (by decide +kernel)) (fun _ _ _ _ _ => (pg_name (i := 1) scL.nd rfl (Or.inl rfl))) (fun _ _ _ _ _ => pts_nil) (fun _ _ _ _ _ => (pe_callG d_right.ok (hr.mono (by decide)) hG (by rfl) d_right.g d_right.kp d_right.b .nil pass0 (pa_cons (pe_callG d_box.ok (hr.mono (by decide)) hG (by rfl) d_box.g d_box.kp d_box.b .nil pass0 (pa_cons (pv 0) (pa_cons (pv 1) pa_nil))) pa_nil)))) pa_nil)))), ?_⟩
    refine ⟨.ref a, rfl, a, _, rfl, .inl hS, 3, _, rfl, 1, _, rfl, ((max 1 (min 3 ns.length) : Nat) : Int), ?_, by omega, by omega, fun D nD => ?_⟩
    · show [V.int (if (if ((ns.map V.int).length : Int) < 3 then ((ns.map V.int).length : Int) else 3) > 1 then (if ((ns.map V.int).length : Int) < 3 then ((ns.map V.int).length : Int) else 3) else 1)] = _
      rw [List.length_map]
      congr 2
      split <;> split <;> omega
    · refine lc_range (lo := 0) (n := max 1 (min 3 ns.length)) (fun j H2 => ∃ bs : List Bool, H2 D = some (.lst (bs.map V.bl)) ∧ bs.length = j ∧ (∀ x ∈ bs, x = true) ∧ Same H H2) ⟨[], upd_same, rfl, alln, same_new nD⟩ (fun j H2 hj hP => ?_) (fun H2 hP => ?_)
      · obtain ⟨bs, hD, lb, ab, sm⟩ := hP
        rw [Int.zero_add]
        refine ⟨rfl, .ref a, rfl, .int (j : Nat), rfl, a, ns, j, rfl, sm.seq hS, by omega, fun p u np hB => ?_⟩
        refine ⟨p, 0, rfl, hB, by decide, fun H3 off => ?_⟩
        have off2 : Off p H2 H3 := fun x o nx h => off x o nx (by rw [upd_ne nx]; exact h)
        have Dp := ne_of_none hD np
        refine ⟨_, off2 _ _ Dp hD, by rw [List.length_map]; exact small1000 (by omega), bs ++ [true], ?_, by rw [List.length_append, lb]; rfl, fun x hx => ?_, ?_⟩
        · rw [upd_same, List.map_append]
          rfl
        · rcases List.mem_append.mp hx with hx | hx
          · exact ab x hx
          · simpa using hx
        · exact same_put (fun x o h => off2 x o (ne_of_none (sm x o h) np) (sm x o h)) nD
      · obtain ⟨bs, hD, lb, ab, hS2⟩ := hP
        refine ⟨D, bs, rfl, SqL.of hD, ?_⟩
        have : bs.all id = true := List.all_eq_true.mpr fun x hx => ab x hx
        rw [this]
        exact q _
end
end M01

set_option Elab.async false
set_option linter.all false
set_option maxRecDepth 100000
namespace M01
open PySem PySem.Spec PyProof.Rows L2 GL
/-! ### what the top has left -/
theorem all_mk {l : PySem.W.OpenLaw} {w : World} {K : PySem.W.Frag} {h : Heap} {mg : Str → Option Value} {fa f1 f2 f3 f4 f5 f6 f7 f8 f9 f10 : Addr} (X : K.In h) (G : h.Ns mainGlobals mg) (hfa : mg "law" = some (.ref fa))
    {od1 an1 od2 an2 od3 an3 od4 an4 od5 an5 od6 an6 od7 an7 od8 an8 od9 an9 od10 an10 : Option Addr} {sl1 sl2 sl3 sl4 sl5 sl6 sl7 sl8 sl9 sl10 : Array (Option Value)}
    {oc1 kV1 dc1 pm1 cd1 ct1 oc2 kV2 dc2 pm2 cd2 ct2 oc3 kV3 dc3 pm3 cd3 ct3 oc4 kV4 dc4 pm4 cd4 ct4 oc5 kV5 dc5 pm5 cd5 ct5 oc6 kV6 dc6 pm6 cd6 ct6 oc7 kV7 dc7 pm7 cd7 ct7 oc8 kV8 dc8 pm8 cd8 ct8 oc9 kV9 dc9 pm9 cd9 ct9 oc10 kV10 dc10 pm10 cd10 ct10 : Value}
    (a1 : PySem.W.nsIn K mainGlobals "is_word" = some (some (.ref f1)))
    (l1 : K.lookup f1 = some ⟨oc1, od1, .func (PySem.W.fnOf "is_word" "is_word" (defArgs sIsWord) (defBody sIsWord) (defScope sIsWord) .none kV1 dc1 pm1 an1 cd1 ct1), sl1⟩)
    (c1 : PySem.W.codeIn K cd1 "is_word" = true) (k1 : PySem.W.keepIn K (.ref f1) = true)
    (a2 : PySem.W.nsIn K mainGlobals "is_name" = some (some (.ref f2)))
    (l2 : K.lookup f2 = some ⟨oc2, od2, .func (PySem.W.fnOf "is_name" "is_name" (defArgs sIsName) (defBody sIsName) (defScope sIsName) .none kV2 dc2 pm2 an2 cd2 ct2), sl2⟩)
    (c2 : PySem.W.codeIn K cd2 "is_name" = true) (k2 : PySem.W.keepIn K (.ref f2) = true)
    (a3 : PySem.W.nsIn K mainGlobals "_law_box" = some (some (.ref f3)))
    (l3 : K.lookup f3 = some ⟨oc3, od3, .func (PySem.W.fnOf "_law_box" "_law_box" (defArgs sBox) (defBody sBox) (defScope sBox) .none kV3 dc3 pm3 an3 cd3 ct3), sl3⟩)
    (c3 : PySem.W.codeIn K cd3 "_law_box" = true) (k3 : PySem.W.keepIn K (.ref f3) = true)
    (a4 : PySem.W.nsIn K mainGlobals "_law_take" = some (some (.ref f4)))
    (l4 : K.lookup f4 = some ⟨oc4, od4, .func (PySem.W.fnOf "_law_take" "_law_take" (defArgs sTake) (defBody sTake) (defScope sTake) .none kV4 dc4 pm4 an4 cd4 ct4), sl4⟩)
    (c4 : PySem.W.codeIn K cd4 "_law_take" = true) (k4 : PySem.W.keepIn K (.ref f4) = true)
    (a5 : PySem.W.nsIn K mainGlobals "_law_of" = some (some (.ref f5)))
    (l5 : K.lookup f5 = some ⟨oc5, od5, .func (PySem.W.fnOf "_law_of" "_law_of" (defArgs sOf) (defBody sOf) (defScope sOf) .none kV5 dc5 pm5 an5 cd5 ct5), sl5⟩)
    (c5 : PySem.W.codeIn K cd5 "_law_of" = true) (k5 : PySem.W.keepIn K (.ref f5) = true)
    (a6 : PySem.W.nsIn K mainGlobals "_law_any" = some (some (.ref f6)))
    (l6 : K.lookup f6 = some ⟨oc6, od6, .func (PySem.W.fnOf "_law_any" "_law_any" (defArgs sAny) (defBody sAny) (defScope sAny) .none kV6 dc6 pm6 an6 cd6 ct6), sl6⟩)
    (c6 : PySem.W.codeIn K cd6 "_law_any" = true) (k6 : PySem.W.keepIn K (.ref f6) = true)
    (a7 : PySem.W.nsIn K mainGlobals "_law_is_name" = some (some (.ref f7)))
    (l7 : K.lookup f7 = some ⟨oc7, od7, .func (PySem.W.fnOf "_law_is_name" "_law_is_name" (defArgs sLName) (defBody sLName) (defScope sLName) .none kV7 dc7 pm7 an7 cd7 ct7), sl7⟩)
    (c7 : PySem.W.codeIn K cd7 "_law_is_name" = true) (k7 : PySem.W.keepIn K (.ref f7) = true)
    (a8 : PySem.W.nsIn K mainGlobals "_law_words" = some (some (.ref f8)))
    (l8 : K.lookup f8 = some ⟨oc8, od8, .func (PySem.W.fnOf "_law_words" "_law_words" (defArgs sWords) (defBody sWords) (defScope sWords) .none kV8 dc8 pm8 an8 cd8 ct8), sl8⟩)
    (c8 : PySem.W.codeIn K cd8 "_law_words" = true) (k8 : PySem.W.keepIn K (.ref f8) = true)
    (a9 : PySem.W.nsIn K mainGlobals "_law_right" = some (some (.ref f9)))
    (l9 : K.lookup f9 = some ⟨oc9, od9, .func (PySem.W.fnOf "_law_right" "_law_right" (defArgs sRight) (defBody sRight) (defScope sRight) .none kV9 dc9 pm9 an9 cd9 ct9), sl9⟩)
    (c9 : PySem.W.codeIn K cd9 "_law_right" = true) (k9 : PySem.W.keepIn K (.ref f9) = true)
    (a10 : PySem.W.nsIn K mainGlobals "law" = some (some (.ref f10)))
    (l10 : K.lookup f10 = some ⟨oc10, od10, .func (PySem.W.fnOf "law" "law" (defArgs sLaw) (defBody sLaw) (defScope sLaw) .none kV10 dc10 pm10 an10 cd10 ct10), sl10⟩)
    (c10 : PySem.W.codeIn K cd10 "law" = true) (k10 : PySem.W.keepIn K (.ref f10) = true)
    (z0 : PySem.W.nsIn K mainGlobals "len" = some none)
    (z1 : PySem.W.nsIn K mainGlobals "abs" = some none)
    (z2 : PySem.W.nsIn K mainGlobals "int" = some none)
    (z3 : PySem.W.nsIn K mainGlobals "max" = some none)
    (z4 : PySem.W.nsIn K mainGlobals "min" = some none)
    (z5 : PySem.W.nsIn K mainGlobals "range" = some none)
    (z6 : PySem.W.nsIn K mainGlobals "list" = some none)
    (z7 : PySem.W.nsIn K mainGlobals "repr" = some none)
    (z8 : PySem.W.nsIn K mainGlobals "all" = some none)
    (z9 : PySem.W.nsIn K mainGlobals "isinstance" = some none)
    (z10 : PySem.W.nsIn K mainGlobals "str" = some none)
    {tL tM : Tok} {aK : Addr} {odK : Option Addr} {nK : Nat} {slK : Array (Option Value)} {x0 x1 x2 x3 x4 x5 x6 x7 x8 x9 x10 x11 x12 : Tok} (g1 : PySem.W.nsIn K mainGlobals "LETTERS" = some (some (.str "abcdefghijklmnopqrstuvwxyz" tL)))
    (g2 : PySem.W.nsIn K mainGlobals "MOST_LETTERS" = some (some (.int 12 tM)))
    (g3 : PySem.W.nsIn K mainGlobals "KEYWORDS" = some (some (.ref aK)))
    (g4 : K.lookup aK = some ⟨.type "tuple", odK, .seq #[.str "\x69mport" x0, .str "template" x1, .str "list" x2, .str "document" x3, .str "let" x4, .str "new" x5, .str "for" x6, .str "in" x7, .str "where" x8, .str "give" x9, .str "if" x10, .str "then" x11, .str "else" x12] nK, slK⟩) :
    ∃ fd : FuncData, (∀ (s : Shared) (v : Value), BindsTo s fd ⟨[v], []⟩ [("_law_script", v)]) ∧ ∀ base : Heap, K.In base → base.Ns mainGlobals mg → FnG l.prog w K mg base CX0 5 fa fd ["_law_script"] (spLaw K) := by
  have e := hfa.symm.trans (PySem.W.mg_of X G a10)
  cases e
  have F1 := fun_mk (st := sIsWord) l1 c1 k1
  have b1 := F1.binds (ps := ["value"]) fun _ _ _ _ _ _ us hl => match us, hl with | [_], _ => rfl
  have F2 := fun_mk (st := sIsName) l2 c2 k2
  have b2 := F2.binds (ps := ["value"]) fun _ _ _ _ _ _ us hl => match us, hl with | [_], _ => rfl
  have F3 := fun_mk (st := sBox) l3 c3 k3
  have b3 := F3.binds (ps := ["_law_script", "_law_k"]) fun _ _ _ _ _ _ us hl => match us, hl with | [_, _], _ => rfl
  have F4 := fun_mk (st := sTake) l4 c4 k4
  have b4 := F4.binds (ps := ["_law_box_here", "_law_many"]) fun _ _ _ _ _ _ us hl => match us, hl with | [_, _], _ => rfl
  have F5 := fun_mk (st := sOf) l5 c5 k5
  have b5 := F5.binds (ps := ["_law_box_here", "_law_some"]) fun _ _ _ _ _ _ us hl => match us, hl with | [_, _], _ => rfl
  have F6 := fun_mk (st := sAny) l6 c6 k6
  have b6 := F6.binds (ps := ["_law_box_here"]) fun _ _ _ _ _ _ us hl => match us, hl with | [_], _ => rfl
  have F7 := fun_mk (st := sLName) l7 c7 k7
  have b7 := F7.binds (ps := ["_law_word"]) fun _ _ _ _ _ _ us hl => match us, hl with | [_], _ => rfl
  have F8 := fun_mk (st := sWords) l8 c8 k8
  have b8 := F8.binds (ps := ["_law_box_here"]) fun _ _ _ _ _ _ us hl => match us, hl with | [_], _ => rfl
  have F9 := fun_mk (st := sRight) l9 c9 k9
  have b9 := F9.binds (ps := ["_law_box_here"]) fun _ _ _ _ _ _ us hl => match us, hl with | [_], _ => rfl
  have F10 := fun_mk (st := sLaw) l10 c10 k10
  have T : Bl K mg := ⟨PySem.W.mg_none_of X G z0, PySem.W.mg_none_of X G z1, PySem.W.mg_none_of X G z2, PySem.W.mg_none_of X G z3, PySem.W.mg_none_of X G z4, PySem.W.mg_none_of X G z5, PySem.W.mg_none_of X G z6, PySem.W.mg_none_of X G z7, PySem.W.mg_none_of X G z8, PySem.W.mg_none_of X G z9, PySem.W.mg_none_of X G z10, ⟨_, PySem.W.mg_of X G g1⟩, ⟨_, PySem.W.mg_of X G g2⟩, aK, PySem.W.mg_of X G g3, fun H => .inr ⟨_, _, _, g4, rfl, rfl, by show 13 ≤ sizeLine; decide, .cons ⟨_, rfl⟩ (.cons ⟨_, rfl⟩ (.cons ⟨_, rfl⟩ (.cons ⟨_, rfl⟩ (.cons ⟨_, rfl⟩ (.cons ⟨_, rfl⟩ (.cons ⟨_, rfl⟩ (.cons ⟨_, rfl⟩ (.cons ⟨_, rfl⟩ (.cons ⟨_, rfl⟩ (.cons ⟨_, rfl⟩ (.cons ⟨_, rfl⟩ (.cons ⟨_, rfl⟩ (.nil)))))))))))))⟩⟩
  have kbN : KBinds K (PySem.W.fnOf "is_name" "is_name" (defArgs sIsName) (defBody sIsName) (defScope sIsName) .none kV2 dc2 pm2 an2 cd2 ct2) ["value"] ["value"] gKv gK := by
    refine ⟨fun s us ws _ hl => ?_, fun r1 r2 => gK_rel r1 r2⟩
    match us, ws, hl with
    | [], [_], _ => exact .of_eq rfl
    | [], [], hl => exact nomatch hl
    | [], _ :: _ :: _, hl => exact nomatch hl
    | _ :: _, _, hl => exact nomatch hl
  refine ⟨PySem.W.fnOf "law" "law" (defArgs sLaw) (defBody sLaw) (defScope sLaw) .none kV10 dc10 pm10 an10 cd10 ct10, fun s v => .of_eq rfl, fun base _ _ => ?_⟩
  have dT : DnG l.prog w K mg base "_law_take" 1 _ spTake := ⟨_, _, .of (ok_take F4), PySem.W.mg_of X G a4, F4.kp, b4⟩
  have dO : DnG l.prog w K mg base "_law_of" 2 _ spOf := ⟨_, _, ok_of F5 T dT, PySem.W.mg_of X G a5, F5.kp, b5⟩
  have dW : DnG l.prog w K mg base "is_word" 1 _ spWord := ⟨_, _, ok_word F1 T, PySem.W.mg_of X G a1, F1.kp, b1⟩
  have dR : DnG l.prog w K mg base "_law_right" 4 _ spRight := ⟨_, _, ok_right F9 T ⟨_, _, ok_words F8 T dT dO, PySem.W.mg_of X G a8, F8.kp, b8⟩ ⟨_, _, ok_any F6 T dO, PySem.W.mg_of X G a6, F6.kp, b6⟩ ⟨_, _, ok_lname F7 T, PySem.W.mg_of X G a7, F7.kp, b7⟩ ⟨_, _, ok_name F2 T dW, PySem.W.mg_of X G a2, F2.kp, b2⟩ kbN, PySem.W.mg_of X G a9, F9.kp, b9⟩
  exact ok_law F10 T ⟨_, _, .of (ok_box F3 T), PySem.W.mg_of X G a3, F3.kp, b3⟩ dR
end M01
open PySem PySem.W PyProof.Rows
set_option maxHeartbeats 0 in
theorem PySem.Challenge.cw_sourceback_k01_names_of_any_value_holds : PySem.Challenge.rw_sourceback_k01_names_of_any_value.Holds := by
  w_on; o_law; k_head; (case hw => w_witness2)
  k_fill
  refine GL.walk_ofG (l := PySem.Challenge.rw_sourceback_k01_names_of_any_value) (n := 63) (k := 5) (x := "_law_script") (CX := fun _ => L2.CX0) (sp := fun w => M01.spLaw _) rfl (by decide) rfl ⟨rfl, by decide, by decide⟩ (fun w h Y => PySem.W.kIn_of Y) ?F (fun _ _ a ns hl _ hS => ⟨a, ns, rfl, hS, hl, fun _ => rfl⟩) (fun _ _ _ _ _ h => h)
  case F =>
    intro w mg fa h KX G hmg
    refine' M01.all_mk KX G hmg ?a1 ?l1 ?c1 ?k1 ?a2 ?l2 ?c2 ?k2 ?a3 ?l3 ?c3 ?k3 ?a4 ?l4 ?c4 ?k4 ?a5 ?l5 ?c5 ?k5 ?a6 ?l6 ?c6 ?k6 ?a7 ?l7 ?c7 ?k7 ?a8 ?l8 ?c8 ?k8 ?a9 ?l9 ?c9 ?k9 ?a10 ?l10 ?c10 ?k10 ?z0 ?z1 ?z2 ?z3 ?z4 ?z5 ?z6 ?z7 ?z8 ?z9 ?z10 ?g1 ?g2 ?g3 ?g4
    (case a1 => k_is); (case l1 => k_is); (case c1 => k_is); (case k1 => k_is); (case a2 => k_is); (case l2 => k_is); (case c2 => k_is); (case k2 => k_is); (case a3 => k_is); (case l3 => k_is); (case c3 => k_is); (case k3 => k_is); (case a4 => k_is); (case l4 => k_is); (case c4 => k_is); (case k4 => k_is); (case a5 => k_is); (case l5 => k_is); (case c5 => k_is); (case k5 => k_is); (case a6 => k_is); (case l6 => k_is); (case c6 => k_is); (case k6 => k_is); (case a7 => k_is); (case l7 => k_is); (case c7 => k_is); (case k7 => k_is); (case a8 => k_is); (case l8 => k_is); (case c8 => k_is); (case k8 => k_is); (case a9 => k_is); (case l9 => k_is); (case c9 => k_is); (case k9 => k_is); (case a10 => k_is); (case l10 => k_is); (case c10 => k_is); (case k10 => k_is); (case z0 => k_is); (case z1 => k_is); (case z2 => k_is); (case z3 => k_is); (case z4 => k_is); (case z5 => k_is); (case z6 => k_is); (case z7 => k_is); (case z8 => k_is); (case z9 => k_is); (case z10 => k_is); (case g1 => k_is); (case g2 => k_is); (case g3 => k_is); (case g4 => k_is)
