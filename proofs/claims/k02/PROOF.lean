import PyProof.Rows.All
import Wide.All
import OpenK.AllK
import Wide.FinOn
import HandS.ForMost
import HandS.Defaults
import HandS.IsInst
import HandS.More
import HandS.Conv
import HandS.SortKw
import HandS.Strs
import HandS.Wide
import HandS.RaiseMore
import HandS.StrMore
import HandS.Walk
import HandS.Bytes
import HandS.Codes
import HandS.GenList
import PyProof.TupleOfGen
import HandS.Style
import HandS.DictComp
import HandS.Small
import PySem.Challenge.RW_sourceback_k02_tokens_of_texts
set_option Elab.async false
set_option linter.all false
set_option maxRecDepth 100000
/-! Layer G: the promises of defs where no repr is under way (A.guards = some []): what repr of lists, tuples and dicts wants. -/
namespace GL
open PySem PySem.Spec PyProof.Rows L2

/-- a def keeps its promise, called where no repr is under way -/
structure FnG (P : Program) (w : World) (K : PySem.W.Frag) (mg : Str → Option Value) (base : Heap) (CX : CXT) (k : Nat) (f : Addr) (fd : FuncData) (ps : List Str) (sp : Sp) : Prop where
  len : ∀ vs H Q E, sp vs H Q E → vs.length = ps.length
  run : ∀ (A : Around) (outer : List Env) (s : Shared) (H : Hp) (args : Args) (us : List Value) (vs : List V) (Q : VK) (E : XK), Room k A → A.guards = some [] →
    Env0 P w K mg base A outer s H → BindsTo s fd args (ps.zip us) → Vals vs us → sp vs H Q E → codeAny (model P w) A (.call (.ref f) args) (CR CX outer P w H s Q E) s
section
variable {P : Program} {w : World} {K : PySem.W.Frag} {mg : Str → Option Value} {base : Heap} {CX : CXT} {j k : Nat} {f : Addr} {fd : FuncData} {ps : List Str} {sp sp' : Sp}
theorem FnG.of (F : FnOk P w K mg base CX k f fd ps sp) : FnG P w K mg base CX k f fd ps sp := ⟨F.len, fun A o s H a us vs Q E r _ => F.run A o s H a us vs Q E r⟩
theorem FnG.mono (F : FnG P w K mg base CX j f fd ps sp) (h : j ≤ k) : FnG P w K mg base CX k f fd ps sp := ⟨F.len, fun A o s H a us vs Q E r => F.run A o s H a us vs Q E (r.mono h)⟩
theorem FnG.imp (F : FnG P w K mg base CX k f fd ps sp) (h : ∀ vs H Q E, sp' vs H Q E → sp vs H Q E) : FnG P w K mg base CX k f fd ps sp' :=
  ⟨fun vs H Q E q => F.len vs H Q E (h _ _ _ _ q), fun A o s H a us vs Q E r g e0 hb hv hs => F.run A o s H a us vs Q E r g e0 hb hv (h _ _ _ _ hs)⟩
end

section
variable {X : Cx} {CX : CXT} {k : Nat} {f : Addr} {fd : FuncData} {ps ks : List Str} {sp : Sp} {dvs : List V} {ds : List Value} {E : XK} {x : Str} {p pos : Pos} {e : Expr} {es : List Expr} {kws : List Keyword} {t tk : TA}
  {g : List Value → List Value → List Value} {gV : List V → List V → List V}
/-- what stands behind a call that ran -/
theorem call_end {pins : List (Addr × Obj)} {σ : L2.St} {H : Hp} {s : Shared} {Q : VK} (hx : Passes CX X E) (I : Inv X pins σ H s) {args : Args} (h : codeAny (model X.prog X.w) X.A (.call (.ref f) args) (CR CX X.stack X.prog X.w H s Q E) s) :
    wpAny (model X.prog X.w) X.A (call (.ref f) args.pos args.kw) (EP X pins σ Q) X.xe s :=
  wpAny_call (codeAny_mono h fun r s' hq => match r, hq with
    | .error e, hq => hx pins σ H s e s' I hq
    | .ok (.ret _), hq => I.after hq
    | .ok .next, hq => hq.elim
    | .ok .brk, hq => hq.elim
    | .ok .cont, hq => hq.elim)
theorem run_g {pins : List (Addr × Obj)} {σ : L2.St} {H : Hp} {s : Shared} {Q : VK} {us : List Value} {vs : List V} (F : FnG X.prog X.w X.K X.mg X.base CX k f fd ps sp) (hr : Room k X.A) (hG : X.A.guards = some []) (hb : Binds X.K fd ps ds) (hd : Vals dvs ds)
    (hx : Passes CX X E) (I : Inv X pins σ H s) (r : Vals vs us) (h : sp (vs ++ dvs) H Q E) : wpAny (model X.prog X.w) X.A (call (.ref f) us) (EP X pins σ Q) X.xe s := by
  have r2 := r.append hd
  refine call_end (args := ⟨us, []⟩) hx I (F.run X.A X.stack s H ⟨us, []⟩ (us ++ ds) (vs ++ dvs) Q E hr hG I.env0 (hb s us I.kIn ?_) r2 h)
  exact r2.length.symm.trans (F.len _ _ _ _ h)
theorem run_gk {pins : List (Addr × Obj)} {σ : L2.St} {H : Hp} {s : Shared} {Q : VK} {us ws : List Value} {vs zs : List V} (F : FnG X.prog X.w X.K X.mg X.base CX k f fd ps sp) (hr : Room k X.A) (hG : X.A.guards = some []) (hb : KBinds X.K fd ps ks g gV)
    (hx : Passes CX X E) (I : Inv X pins σ H s) (r : Vals vs us) (rz : Vals zs ws) (h : sp (gV vs zs) H Q E) : wpAny (model X.prog X.w) X.A (call (.ref f) us (ks.zip ws)) (EP X pins σ Q) X.xe s := by
  have r2 := hb.rel r rz
  refine call_end (args := ⟨us, ks.zip ws⟩) hx I (F.run X.A X.stack s H ⟨us, ks.zip ws⟩ (g us ws) (gV vs zs) Q E hr hG I.env0 (hb.to s us ws I.kIn ?_) r2 h)
  exact r2.length.symm.trans (F.len _ _ _ _ h)
/-- f(e, ..) -/
theorem pe_callG (F : FnG X.prog X.w X.K X.mg X.base CX k f fd ps sp) (hr : Room k X.A) (hG : X.A.guards = some []) (hg : Gl X x) (hm : X.mg x = some (.ref f)) (hk : PySem.W.keepIn X.K (.ref f) = true) (hb : Binds X.K fd ps ds) (hd : Vals dvs ds)
    (hx : Passes CX X E) (ha : PA X (e :: es) t) (hdb : (x == ("__debug__" : Str)) = false := by decide) (he : starEach (e :: es) X.env = (false, eval e X.env) :: starEach es X.env := by rfl)
    (hpl : (backTo pos (starEach es X.env)).any (·.1) = false := by rfl) : PE X (.Call (.Name x p) (e :: es) [] pos) (tCall sp dvs E t) :=
  ⟨fun pins s σ H Q I h => wpAny_Call_Name_kw (ld_glob I hg hm (PySem.W.callWith_K (h₀ := X.base) I.ok.mod.kin hk
    (thn (ha.run pos pins s σ H _ I h) fun us s1 ⟨vs, H1, I1, r, q⟩ => ⟨I1.kIn, run_g F hr hG hb hd hx I1 r q⟩) he hpl) hdb)⟩
/-- f() -/
theorem pe_call0G (F : FnG X.prog X.w X.K X.mg X.base CX k f fd ps sp) (hr : Room k X.A) (hG : X.A.guards = some []) (hg : Gl X x) (hm : X.mg x = some (.ref f)) (hk : PySem.W.keepIn X.K (.ref f) = true) (hb : Binds X.K fd ps ds) (hd : Vals dvs ds)
    (hx : Passes CX X E) (hdb : (x == ("__debug__" : Str)) = false := by decide) : PE X (.Call (.Name x p) [] [] pos) (tCall sp dvs E tNil) :=
  ⟨fun pins s σ H Q I h => wpAny_Call_Name_kw (ld_glob I hg hm (PySem.W.callWith_K0 I.kIn hk (run_g (us := []) F hr hG hb hd hx I .nil h)) hdb)⟩
/-- f(e, .., k = v, ..) -/
theorem pe_callKG (F : FnG X.prog X.w X.K X.mg X.base CX k f fd ps sp) (hr : Room k X.A) (hG : X.A.guards = some []) (hg : Gl X x) (hm : X.mg x = some (.ref f)) (hk : PySem.W.keepIn X.K (.ref f) = true) (hb : KBinds X.K fd ps ks g gV) (hx : Passes CX X E)
    (ha : PA X (e :: es) t) (hkw : PK X kws tk) (hall : (backToKw pos (keywordEach kws X.env)).all (·.1.isSome) = true := by rfl) (hks : (backToKw pos (keywordEach kws X.env)).filterMap (·.1) = ks := by rfl)
    (hdb : (x == ("__debug__" : Str)) = false := by decide) (he : starEach (e :: es) X.env = (false, eval e X.env) :: starEach es X.env := by rfl)
    (hpl : ((backTo pos (starEach (e :: es) X.env)).any (·.1) || (backToKw pos (keywordEach kws X.env)).any (·.1.isNone)) = false := by rfl) : PE X (.Call (.Name x p) (e :: es) kws pos) (tCallK sp gV E t tk) := by
  refine ⟨fun pins s σ H Q I h => wpAny_Call_Name_kw (ld_glob I hg hm (PySem.W.callWith_KW (h₀ := X.base) I.ok.mod.kin hk hall (thn (ha.run pos pins s σ H _ I h) fun us s1 ⟨vs, H1, I1, r, q⟩ =>
    thn (hkw.run pos pins s1 σ H1 _ I1 q) fun ws s2 ⟨zs, H2, I2, rz, q2⟩ => ⟨I2.kIn, ?_⟩) hpl he) hdb)⟩
  rw [hks]
  exact run_gk F hr hG hb hx I2 r rz q2
/-- f(k = v, ..) -/
theorem pe_callK0G (F : FnG X.prog X.w X.K X.mg X.base CX k f fd ps sp) (hr : Room k X.A) (hG : X.A.guards = some []) (hg : Gl X x) (hm : X.mg x = some (.ref f)) (hk : PySem.W.keepIn X.K (.ref f) = true) (hb : KBinds X.K fd ps ks g gV) (hx : Passes CX X E)
    (hkw : PK X kws tk) (hall : (backToKw pos (keywordEach kws X.env)).all (·.1.isSome) = true := by rfl) (hks : (backToKw pos (keywordEach kws X.env)).filterMap (·.1) = ks := by rfl) (hdb : (x == ("__debug__" : Str)) = false := by decide)
    (hpl : ((backTo pos (starEach [] X.env)).any (·.1) || (backToKw pos (keywordEach kws X.env)).any (·.1.isNone)) = false := by rfl) : PE X (.Call (.Name x p) [] kws pos) (tCallK sp gV E tNil tk) := by
  refine ⟨fun pins s σ H Q I h => wpAny_Call_Name_kw (ld_glob I hg hm (PySem.W.callWith_KW0 (h₀ := X.base) I.ok.mod.kin hk hall (thn (hkw.run pos pins s σ H _ I h) fun ws s1 ⟨zs, H1, I1, rz, q1⟩ => ⟨I1.kIn, ?_⟩) hpl) hdb)⟩
  rw [hks]
  exact run_gk F hr hG hb hx I1 .nil rz q1
end

section
variable {P : Program} {w : World} {K : PySem.W.Frag} {mg : Str → Option Value} {base : Heap}
/-- a def's promise by its body -/
theorem okG {CX : CXT} {x qual : Str} {st : Stmt} {f : Addr} {fd : FuncData} {N ps : List Str} {k : Nat} {sp : Sp} (F : Fun K x qual st f fd) (S : FnScope N ps (defScope st)) (len : ∀ vs H Q E, sp vs H Q E → vs.length = ps.length)
    (body : ∀ (cdv : Value) (A : Around) (outer : List Env) (s : Shared) (H : Hp) (vs : List V) (Q : VK) (E : XK), Room k (A.deeper (envOfC qual (defScope st) s.heap.objs.size f cdv)) → A.guards = some [] → sp vs H Q E →
      ∃ t, PSs (cxOf CX P w K mg base N qual (defScope st) f cdv A outer s H E) (defBody st) t ∧ t { nx := fun _ H' => Q .non H', rt := Q } (start N vs) H) : FnG P w K mg base CX (k + 1) f fd ps sp := by
  obtain ⟨oc, od, kV, doc, pm, an, cdv, ct, osl, rfl, lk, hcd⟩ := F.ex
  refine ⟨len, fun A outer s H args us vs Q E hr hG e0 hb rel hsp => ?_⟩
  have low : ∀ b o, base.get? b = some o → s.heap.get? b = some o := fun b o e => (e0.bs b o e).1
  have KX : K.In s.heap := e0.mod.kin.keeps low
  refine codeAny_call_function hr.depth (KX _ _ lk) rfl S.co S.gen rfl (PySem.W.codeRec_of KX hcd) (hb _ _ _ _ (wpAny_newFunctionEnv_cells S.kind ?kind fun env he s1 x => ?_))
  case kind =>
    rintro ⟨n, v⟩ hy
    exact (S.par n (List.of_mem_zip hy).1).imp id fun q => ⟨q, PySem.W.cellsFrom_some _ _ _ (.inl q)⟩
  subst he
  refine ⟨(e0.mod.nolimit.keeps low).keeps x.toInCall.keep, codeAny_func ?_⟩
  obtain ⟨t, ht, hq⟩ := body cdv A outer s H vs Q E (hr.deeper _) hG hsp
  have I := inv_start (CX := CX) (E := E) (qual := qual) (f := f) (cd := cdv) S hr.hd e0 (len _ _ _ _ hsp) rel x
  refine wpAny_mono (ht.run [] s1 (start N vs) H _ I hq) (fun fl s' hs => ?_) fun e s' hs => hs
  match fl, hs with
  | .ret u, ⟨v, σ', H', J, rv, q⟩ => exact ⟨v, H', J.os, J.bare, J.base, J.hok, rv, q⟩
  | .next, ⟨σ', H', J, q⟩ => exact ⟨.non, H', J.os, J.bare, J.base, J.hok, rfl, q⟩
  | .brk, ⟨_, _, _, q⟩ => exact q.elim
  | .cont, ⟨_, _, _, q⟩ => exact q.elim
/-- the same, nothing is raised out of the def -/
theorem okG0 {x qual : Str} {st : Stmt} {f : Addr} {fd : FuncData} {N ps : List Str} {k : Nat} {sp : Sp} (F : Fun K x qual st f fd) (S : FnScope N ps (defScope st)) (len : ∀ vs H Q E, sp vs H Q E → vs.length = ps.length)
    (body : ∀ (cdv : Value) (A : Around) (outer : List Env) (s : Shared) (H : Hp) (vs : List V) (Q : VK) (E : XK), Room k (A.deeper (envOfC qual (defScope st) s.heap.objs.size f cdv)) → A.guards = some [] → sp vs H Q E →
      ∃ t, PSs (cxOf CX0 P w K mg base N qual (defScope st) f cdv A outer s H E).nox (defBody st) t ∧ t { nx := fun _ H' => Q .non H', rt := Q } (start N vs) H) : FnG P w K mg base CX0 (k + 1) f fd ps sp :=
  okG F S len fun cdv A outer s H vs Q E hr hG h => let ⟨t, h1, h2⟩ := body cdv A outer s H vs Q E hr hG h; ⟨t, h1.nox, h2⟩

/-- the law's call: H tells the script alone (or nothing, where it is an object of the top) -/
theorem law_at {CX : CXT} {k : Nat} {fa a : Addr} {fd : FuncData} {x : Str} {sp : Sp} {s₁ : Shared} {mb : Str → Option Value} {H : Hp} (KX : K.In s₁.heap) (hns : s₁.heap.Ns mainGlobals mg) (hb : s₁.heap.Ns builtinsNs mb) (hbb : ∀ x : Str, x ≠ "__name__" → mb x = bootBuiltins x)
    (hlim : s₁.heap.NoLimit) (hg : s₁.gens = #[]) (hr : Room k callerA) (hok : HOk P w H s₁.heap) (hO : Only H) (hK : ∀ b, H b ≠ none → K.lookup b = none) (hD : ∀ b o es ep, s₁.heap.get? b = some o → o.data = .dict es ep → H b = none)
    (F : ∀ base : Heap, K.In base → base.Ns mainGlobals mg → FnG P w K mg base CX k fa fd [x] sp) (hbind : ∀ (s : Shared) (u : Value), BindsTo s fd ⟨[u], []⟩ [(x, u)])
    (hsp : sp [.ref a] H (fun v _ => v = .bl true) fun _ _ _ => False) (hCX : ∀ e s', CX [] H s₁ (fun _ _ _ => False) e s' → False) :
    codeAny (model P w) callerA (.call (.ref fa) ⟨[.ref a], []⟩) (fun r s' => r = .ok (.ret (.bool true)) ∧ OldK s₁.heap s'.heap ∧ s'.os = s₁.os ∧ AllBare s'.gens) s₁ := by
  have nsB : ∀ {b : Addr} {m : Str → Option Value}, s₁.heap.Ns b m → (hidT s₁.heap H).Ns b m := fun ⟨o, es, ep, e, d, r⟩ => ⟨o, es, ep, hidT_get e (hD _ _ _ _ e d), d, r⟩
  have kB : K.In (hidT s₁.heap H) := fun b o e => hidT_get (KX b o e) (Classical.byContradiction fun z => by
    have := hK b z
    rw [e] at this
    cases this)
  have md : Mod K mg (hidT s₁.heap H) := ⟨kB, nsB hns, ⟨mb, nsB hb, hbb⟩, let ⟨mc, h1, h2⟩ := hlim; ⟨mc, nsB h1, h2⟩⟩
  have e0 : Env0 P w K mg (hidT s₁.heap H) callerA [] s₁ H := ⟨rfl, md, fun _ _ e => of_hidT e, Nat.le_of_eq (hidT_size _ _), trivial, (fun b z => absurd (show b ∈ ([] : List Addr) from z) (by simp)), hok, AllBare.of_eq hg⟩
  refine codeAny_mono ((F _ kB (nsB hns)).run callerA [] s₁ H ⟨[.ref a], []⟩ [.ref a] [.ref a] _ _ hr rfl e0 (hbind s₁ (.ref a)) (.cons rfl .nil) hsp) fun r s' h => ?_
  match r, h with
  | .error e, h => exact (hCX e s' h).elim
  | .ok .next, h => exact h.elim
  | .ok .brk, h => exact h.elim
  | .ok .cont, h => exact h.elim
  | .ok (.ret u), ⟨v, H', os, bare, un, hok', rv, q⟩ =>
    obtain rfl : v = V.bl true := q
    obtain rfl : u = Value.bool true := rv
    refine ⟨rfl, OldK.of_keep fun b o e => ?_, os, bare⟩
    rcases hO b with z | ⟨ob, xs, z⟩
    · exact un.keep b o e z (fun y => absurd (show b ∈ ([] : List Addr) from y) (by simp)) (by simp)
    · have e1 := (hok b _ z).1
      have e2 := (hok' b _ (un.frzs b ob _ z)).1
      rw [← Option.some.inj (e1.symm.trans e)]
      exact e2
end
/-- the goal that k_head leaves, by the law's promise -/
theorem walk_ofG {l : PySem.W.OpenLaw} {n k : Nat} {q : Program} {loose : List Str} {XP : (Str → Option Value) → Heap → Prop} {YP : World → Heap → Prop} {d : DefRec} {K : Params → PySem.W.Frag} {CX : World → CXT} {sp : World → Sp} {x : Str}
    (hn : l.most = some n) (hn2 : n ≤ sizeLine) (hdf : d.params.defaults = []) (hr : Room k callerA) (hY : ∀ (w : World) (h : Heap), YP w h → (K w.params).In h)
    (F : ∀ (w : World) (mg : Str → Option Value) (fa : Addr) (h : Heap), (K w.params).In h → h.Ns mainGlobals mg → mg d.name = some (.ref fa) → ∃ fd : FuncData, (∀ (s : Shared) (u : Value), BindsTo s fd ⟨[u], []⟩ [(x, u)]) ∧
      ∀ base : Heap, (K w.params).In base → base.Ns mainGlobals mg → FnG l.prog w (K w.params) mg base (CX w) k fa fd [x] (sp w))
    (hsp : ∀ (w : World) (H : Hp) (a : Addr) (ns : List Int), ns.length ≤ n → Only H → SqL (K w.params) H a (ns.map V.int) → sp w [.ref a] H (fun v _ => v = .bl true) fun _ _ _ => False)
    (hCX : ∀ (w : World) (H : Hp) (s : Shared) (e : Value) (s' : Shared), CX w [] H s (fun _ _ _ => False) e s' → False) : PySem.W.WalkO q loose XP YP l.row.toRowW d [] (fun f vs => PySem.call f vs) := by
  refine Att.attach_call hn hdf fun w s₀ s₁ mg mb fa o pm cd doc a vs ns G Y ho hd hcd hmg hobj hints hlen hg => ?_
  have KX := hY w _ Y
  obtain ⟨fd, hb, hF⟩ := F w mg fa _ KX G.T.g hmg
  have rv := vals_ints hints
  have lenV := hints.length
  have hl : ns.length ≤ sizeLine := Nat.le_trans hlen hn2
  cases hk : (K w.params).lookup a with
  | some ob =>
    have e := KX a ob hk
    rw [hobj] at e
    cases e
    refine law_at (H := fun _ => none) KX G.T.g G.T.b G.T.builtins G.T.nolimit hg hr (fun b u z => nomatch z) (fun _ => .inl rfl) (fun b z => absurd rfl z) (fun _ _ _ _ _ _ => rfl) hF hb
      (hsp w _ a ns hlen (fun _ => .inl rfl) (.inr ⟨_, vs.toArray, _, hk, rfl, rfl, rfl, by rw [List.size_toArray, lenV]; exact hl, by simpa using rv⟩)) fun e s' => hCX w _ s₁ e s'
  | none =>
    have at' : ∀ {b : Addr} {u : HO}, (if b = a then some (HO.frz { cls := .type "list", data := .seq vs.toArray } (.lst (ns.map V.int))) else none) = some u → b = a ∧ u = .frz { cls := .type "list", data := .seq vs.toArray } (.lst (ns.map V.int)) := fun {b u} z => by
      by_cases hba : b = a
      · rw [if_pos hba] at z
        exact ⟨hba, (Option.some.inj z).symm⟩
      · rw [if_neg hba] at z
        cases z
    have only : Only fun b => if b = a then some (HO.frz { cls := .type "list", data := .seq vs.toArray } (.lst (ns.map V.int))) else none := fun b => by
      by_cases hba : b = a
      · exact .inr ⟨_, _, if_pos hba⟩
      · exact .inl (if_neg hba)
    refine law_at (H := fun b => if b = a then some (.frz { cls := .type "list", data := .seq vs.toArray } (.lst (ns.map V.int))) else none) KX G.T.g G.T.b G.T.builtins G.T.nolimit hg hr (fun b u z => ?_) only (fun b z => ?_) (fun b o es ep e d => ?_) hF hb
      (hsp w _ a ns hlen only (.inl (.inr ⟨{ cls := .type "list", data := .seq vs.toArray }, if_pos rfl⟩))) fun e s' => hCX w _ s₁ e s'
    · obtain ⟨rfl, rfl⟩ := at' z
      exact ⟨hobj, by rw [List.length_map]; exact hl, vs, _, rv, hobj⟩
    · by_cases hba : b = a
      · rw [hba]
        exact hk
      · exact absurd (if_neg hba) z
    · by_cases hba : b = a
      · subst hba
        rw [hobj] at e
        cases e
        cases d
      · exact if_neg hba
end GL

set_option Elab.async false
set_option linter.all false
set_option maxRecDepth 100000
/-! Data: None, bools, ints, texts, lists, tuples and dicts (with text and int keys) at any depth, as they stand in H; repr of them -/
namespace GL
open PySem PySem.Spec PyProof.Rows L2

def keyD : Key → PyData
  | .inl i => .int i
  | .inr x => .str x
mutual
inductive DV (K : PySem.W.Frag) (H : Hp) : V → PyData → Prop
  | non : DV K H .non .none
  | bl (b : Bool) : DV K H (.bl b) (.bool b)
  | int (i : Int) : DV K H (.int i) (.int i)
  | str (x : Str) : DV K H (.str x) (.str x)
  | lst {a : Addr} {xs : List V} {ds : List PyData} : SqL K H a xs → a ≠ sysModules → DVs K H xs ds → DV K H (.ref a) (.list ds)
  | tup {a : Addr} {xs : List V} {ds : List PyData} : SqT K H a xs → DVs K H xs ds → DV K H (.ref a) (.tuple ds)
  | dct {a : Addr} {kvs : List (Key × V)} {ds : List (PyData × PyData)} : Rd H a (.dK kvs) → DVk K H kvs ds → DV K H (.ref a) (.dict ds)
inductive DVs (K : PySem.W.Frag) (H : Hp) : List V → List PyData → Prop
  | nil : DVs K H [] []
  | cons {v : V} {vs : List V} {d : PyData} {ds : List PyData} : DV K H v d → DVs K H vs ds → DVs K H (v :: vs) (d :: ds)
inductive DVk (K : PySem.W.Frag) (H : Hp) : List (Key × V) → List (PyData × PyData) → Prop
  | nil : DVk K H [] []
  | cons {k : Key} {v : V} {vs : List (Key × V)} {d : PyData} {ds : List (PyData × PyData)} : DV K H v d → DVk K H vs ds → DVk K H ((k, v) :: vs) ((keyD k, d) :: ds)
end
theorem same_T {K : PySem.W.Frag} {H H' : Hp} {a : Addr} {xs : List V} (e : Same H H') (h : SqT K H a xs) : SqT K H' a xs := by
  rcases h with (h | ⟨o, h⟩) | h
  · exact .inl (.inl (e _ _ h))
  · exact .inl (.inr ⟨o, e _ _ h⟩)
  · exact .inr h
mutual
theorem DV.same {K : PySem.W.Frag} {H H' : Hp} (e : Same H H') : ∀ {v : V} {d : PyData}, DV K H v d → DV K H' v d
  | _, _, .non => .non
  | _, _, .bl b => .bl b
  | _, _, .int i => .int i
  | _, _, .str x => .str x
  | _, _, .lst h n t => .lst (e.seq h) n (DVs.same e t)
  | _, _, .tup h t => .tup (same_T e h) (DVs.same e t)
  | _, _, .dct h t => .dct (h.elim (fun z => .inl (e _ _ z)) fun ⟨o, z⟩ => .inr ⟨o, e _ _ z⟩) (DVk.same e t)
theorem DVs.same {K : PySem.W.Frag} {H H' : Hp} (e : Same H H') : ∀ {v : List V} {d : List PyData}, DVs K H v d → DVs K H' v d
  | _, _, .nil => .nil
  | _, _, .cons a t => .cons (DV.same e a) (DVs.same e t)
theorem DVk.same {K : PySem.W.Frag} {H H' : Hp} (e : Same H H') : ∀ {v : List (Key × V)} {d : List (PyData × PyData)}, DVk K H v d → DVk K H' v d
  | _, _, .nil => .nil
  | _, _, .cons a t => .cons (DV.same e a) (DVk.same e t)
end
section
variable {X : Cx} {pins : List (Addr × Obj)} {σ : L2.St} {H : Hp} {s : Shared}
theorem keyD_reads {k : Key} {v : Value} (h : keyIs k v = true) : Reads s.heap v (keyD k) [] := by
  rcases keyIs_shape h with ⟨i, t, rfl, rfl⟩ | ⟨x, t, rfl, rfl⟩
  · exact Reads.int i t
  · exact Reads.str x t
mutual
theorem DV.reads (I : Inv X pins σ H s) : ∀ {v : V} {d : PyData} {u : Value}, DV X.K H v d → RelV v u → ∃ as, Reads s.heap u d as ∧ sysModules ∉ as
  | _, _, _, .non, r => by
    cases r
    exact ⟨_, Reads.none, by simp⟩
  | _, _, _, .bl b, r => by
    cases r
    exact ⟨_, Reads.bool b, by simp⟩
  | _, _, _, .int i, r => by
    obtain ⟨t, rfl⟩ := r
    exact ⟨_, Reads.int i t, by simp⟩
  | _, _, _, .str x, r => by
    obtain ⟨t, rfl⟩ := r
    exact ⟨_, Reads.str x t, by simp⟩
  | _, _, _, .lst h n t, r => by
    cases r
    obtain ⟨its, rv, pl, _⟩ := I.list h
    obtain ⟨o, ho, hc, m, hd⟩ := pl.isList
    obtain ⟨as, ra, na⟩ := DVs.reads I t rv
    refine ⟨_, Reads.list ho hc hd (by simpa using ra), fun z => ?_⟩
    rcases List.mem_cons.mp z with z | z
    · exact n z.symm
    · exact na z
  | _, _, _, .tup h t, r => by
    cases r
    obtain ⟨its, rv, ⟨o, ho, hc, m, hd⟩, _⟩ := I.tuple h
    obtain ⟨as, ra, na⟩ := DVs.reads I t rv
    exact ⟨_, Reads.tuple ho hc hd (by simpa using ra), na⟩
  | _, _, _, .dct h t, r => by
    cases r
    obtain ⟨_, hs, vs, rel, o, es, ep, ho, hx, hd, _, pr, _⟩ := dk_rd I.hok h
    obtain ⟨as, ra, rb, na⟩ := DVk.reads I t rel pr
    refine ⟨_, Reads.dict ho hx.1 hd ra rb, fun z => ?_⟩
    rcases List.mem_append.mp z with z | z
    · rcases List.mem_cons.mp z with z | z
      · exact beq_eq_false_iff_ne.mp hs z.symm
      · exact absurd z (by simp)
    · exact na z
theorem DVs.reads (I : Inv X pins σ H s) : ∀ {v : List V} {d : List PyData} {u : List Value}, DVs X.K H v d → Vals v u → ∃ as, ReadsAll s.heap u d as ∧ sysModules ∉ as
  | _, _, _, .nil, .nil => ⟨_, ReadsAll.nil, by simp⟩
  | _, _, _, .cons a t, .cons r q => by
    obtain ⟨as, ra, na⟩ := DV.reads I a r
    obtain ⟨bs, rb, nb⟩ := DVs.reads I t q
    exact ⟨_, ReadsAll.cons ra rb, fun z => (List.mem_append.mp z).elim na nb⟩
theorem DVk.reads (I : Inv X pins σ H s) : ∀ {v : List (Key × V)} {d : List (PyData × PyData)} {u : List (Key × Value)} {es : List DictEntry}, DVk X.K H v d → KV v u → Pairs (mixKind X.prog X.w) es u →
    ∃ bs, ReadsAll s.heap (es.map (·.key)) (d.map (·.1)) [] ∧ ReadsAll s.heap (es.map (·.val)) (d.map (·.2)) bs ∧ sysModules ∉ bs
  | _, _, _, _, .nil, .nil, .nil => ⟨_, ReadsAll.nil, ReadsAll.nil, by simp⟩
  | _, _, _, _, .cons (k := k) a t, .cons r q, .cons hk ev p => by
    obtain ⟨as, ra, na⟩ := DV.reads I a r.2
    obtain ⟨bs, r1, r2, nb⟩ := DVk.reads I t q p
    rw [← ev] at ra
    rw [← r.1] at hk
    exact ⟨as ++ bs, ReadsAll.cons (as := []) (keyD_reads (k := k) hk) r1, ReadsAll.cons ra r2, fun z => (List.mem_append.mp z).elim na nb⟩
end
/-- repr(x) of data -/
def rRepr (K : PySem.W.Frag) : List V → Hp → VK → Prop := fun vs H Q => ∃ (x : V) (d : PyData), vs = [x] ∧ DV K H x d ∧ d.showable = true ∧ d.depth ≤ 60 ∧ d.shown.length ≤ sizeLine ∧ Q (.str d.shown) H
theorem call_reprD (hG : X.A.guards = some []) (hu : X.A.units + 64 < cLine) : CallR X (.builtin "repr") (rRepr X.K) := by
  intro pins s σ H vs us Q I r h
  obtain ⟨x, d, rfl, hd, sh, dp, sz, q⟩ := h
  obtain ⟨u, rfl, ru⟩ := vals1 r
  have out : ∀ {t : Tok} {tk : Nat}, EP X pins σ Q (.str d.shown t) { s with toks := tk } := fun {t tk} => ⟨.str d.shown, H, I.tok _, ⟨t, rfl⟩, q⟩
  cases hd with
  | non =>
    cases ru
    exact P.repr_of_none out
  | bl b =>
    cases ru
    refine P.repr_of_bool ?_
    cases b <;> exact out
  | int i =>
    obtain ⟨t, rfl⟩ := ru
    exact P.repr_of_int (of_decide_eq_true (by simpa [PyData.showable] using sh)) out
  | str z =>
    obtain ⟨t, rfl⟩ := ru
    exact P.repr_of_str out sz
  | lst h1 h2 h3 =>
    cases ru
    obtain ⟨as, ra, na⟩ := DV.reads I (DV.lst h1 h2 h3) rfl
    exact repr_of_reads' ra sh (fun _ => na) hG (by omega) (fun _ _ e => e) (fun h' t tk hk => ⟨.str _, H, I.kept hk, ⟨t, rfl⟩, q⟩) sz
  | tup h1 h2 =>
    cases ru
    obtain ⟨as, ra, na⟩ := DV.reads I (DV.tup h1 h2) rfl
    exact repr_of_reads' ra sh (fun _ => na) hG (by omega) (fun _ _ e => e) (fun h' t tk hk => ⟨.str _, H, I.kept hk, ⟨t, rfl⟩, q⟩) sz
  | dct h1 h2 =>
    cases ru
    obtain ⟨as, ra, na⟩ := DV.reads I (DV.dct h1 h2) rfl
    exact repr_of_reads' ra sh (fun _ => na) hG (by omega) (fun _ _ e => e) (fun h' t tk hk => ⟨.str _, H, I.kept hk, ⟨t, rfl⟩, q⟩) sz
/-- [a, b, ..], where it stands known to be none of the system's own -/
def tLstB (t : TA) : TE := fun σ H Q => t σ H fun xs H1 => xs.length ≤ sizeLine ∧ ∀ p, H1 p = none → p ≠ sysModules → Q (.ref p) (upd H1 p (.lst xs))
theorem pe_lstB {es : List Expr} {t : TA} {pos : Pos} (h : PA X es t) : PE X (.List es pos) (tLstB t) := by
  refine ⟨fun pins s σ H Q I hq => wpAny_List_spliced (thn (h.run pos pins s σ H _ I hq) fun us s1 ⟨xs, H1, I1, r, z, q⟩ => ⟨by rw [← r.length]; exact z, ?_⟩)⟩
  exact ⟨.ref s1.heap.objs.size, _, I1.laid (o := .lst xs) (t' := s1.toks) (fun b u e => Heap.get?_push_of_some _ e) (Nat.le_refl _) ⟨z, us, 0, r, Heap.get?_push_size _ rfl⟩, rfl, q _ (I1.hok.fresh (Nat.le_refl _)) (Nat.ne_of_gt I1.big)⟩
end
/-- a def of the program by its promise, as a caller wants it -/
structure DnG (P : Program) (w : World) (K : PySem.W.Frag) (mg : Str → Option Value) (base : Heap) (x : Str) (k : Nat) (ps : List Str) (sp : Sp) where
  f : Addr
  fd : FuncData
  ok : FnG P w K mg base CX0 k f fd ps sp
  g : mg x = some (.ref f)
  kp : PySem.W.keepIn K (.ref f) = true
  b : Binds K fd ps []
section
variable {X : Cx}
/-- list(s) of a text -/
def signs (x : Str) : List V := x.cps.toList.map fun c => V.str ⟨#[c]⟩
theorem call_listS (hc : X.calm = true) : CallR X (.type "list") (fun xs H Q => ∃ x : Str, xs = [.str x] ∧ x.length ≤ sizeLine ∧ ∀ l, H l = none → Q (.ref l) (upd H l (.lst (signs x)))) := by
  intro pins s σ H xs us Q I r h
  obtain ⟨x, rfl, hz, q⟩ := h
  obtain ⟨u, rfl, t, rfl⟩ := vals1 r
  refine call_list_str (I.ok.hd hc) x t (fun h' tk acc c hk hS hacc => ?_) hz
  have len : acc.toList.length = x.cps.toList.length := by
    rw [Array.length_toList, Array.length_toList]
    exact hacc.1
  refine ⟨.ref s.heap.objs.size, _, I.laid (o := .lst (signs x)) hk (Nat.le_refl _) ⟨?_, acc.toList, c, ?_, by rw [Array.toArray_toList]; exact hS⟩, rfl, q _ (I.hok.fresh (Nat.le_refl _))⟩
  · unfold signs
    rw [List.length_map, Array.length_toList]
    exact hz
  · refine vals_of_at (by rw [signs, List.length_map, len]) fun j v u h1 h2 => ?_
    obtain ⟨c', u', e1, rfl⟩ := hacc.2 j u (by rw [← h2, Array.getElem?_toList])
    rw [signs, List.getElem?_map, Array.getElem?_toList, e1] at h1
    cases h1
    exact ⟨u', rfl⟩
end
end GL

set_option Elab.async false
set_option linter.all false
set_option maxRecDepth 100000
/-! rules that the layer lacks: max(xs, default=d), tuple.index of flat things, a power of a great number -/
namespace GL
open PySem PySem.Spec PyProof.Rows L2

section
variable {prog : Program} {w : World} {A : Around} {R : Result → Shared → Prop} {I S : Addr} {fp wr : List Addr} {n : Nat} {P : Nat → Value → Prop} {St : Nat → Heap → Prop} {bt : Nat → Nat → Bool} {kw : List (Str × Value)}

/-- the list that holds the best item so far -/
abbrev keptAt (h : Heap) (S : Addr) (vs : Array Value) : Prop := ∃ c, h.get? S = some { cls := .type "list", dict := none, data := .seq vs c, slots := #[] }

/-- max.loop with keywords, an item being held: d turns are left -/
theorem loop_kw (W : Walks prog w A.in1 I fp wr n P St) (cmp : CmpOf prog w A.in1 .Gt P bt) (out : S ∉ fp) :
    ∀ (d j : Nat), j + 1 + d = n → ∀ (s : Shared) (v0 : Value), St (j + 1) s.heap → P (argBest bt j) v0 → keptAt s.heap S #[v0, v0] →
      (∀ v h' tk, P (argBest bt (n - 1)) v → (∀ b o, b ∉ wr → b ≠ S → s.heap.get? b = some o → h'.get? b = some o) → R (.ok (.ret v)) { s with heap := h', toks := tk }) →
      codeAny (model prog w) A (.builtin "max.loop" ⟨[.ref I, .none, .ref S], kw⟩) R s := by
  have outW : S ∉ wr := fun z => out (W.sub _ z)
  have nm : (toString "max" ++ toString ".loop" : String) = "max.loop" := by decide
  intro d
  induction d with
  | zero =>
    intro j ej s v0 st p0 ⟨c, hS⟩ fin
    refine codeAny_builtin F.entry_max_loop ?_ <;> rw [Around.under_plainId F.plain_max_loop _]
    show wpAny (model prog w) A.in1 (seqItems? (.ref S) >>= _) _ _ s
    refine wpAny_bind (wpAny_seqItems hS rfl (wpAny_bind (wpAny_tryCatch (W.done s _ _ (show St n s.heap from ej ▸ st) fun h1 t1 keep => ?_))))
    have hS1 := keep S _ outW hS
    refine wpAny_bind (wpAny_updateSeq hS1 rfl (wpAny_bind (wpAny_letGo (wpAny_pure (fin v0 _ t1 ?_ fun b o nb ns e => ?_)))))
    · have e1 : n - 1 = j := by omega
      rw [e1]
      exact p0
    · exact (Heap.get?_update_other _ _ (Ne.symm ns)).trans (keep b o nb e)
  | succ d ih =>
    intro j ej s v0 st p0 ⟨c, hS⟩ fin
    refine codeAny_builtin F.entry_max_loop ?_ <;> rw [Around.under_plainId F.plain_max_loop _]
    show wpAny (model prog w) A.in1 (seqItems? (.ref S) >>= _) _ _ s
    refine wpAny_bind (wpAny_seqItems hS rfl (wpAny_bind (wpAny_tryCatch (W.item (j + 1) s _ _ (by omega) st fun v h1 t1 pv st1 keep => ?_))))
    have hS1 := keep S _ outW hS
    refine wpAny_bind (wpAny_pure (wpAny_bind (wpAny_tryCatch (wpAny_holding (wpAny_bind (cmp (j + 1) (argBest bt j) v v0 _ _ _ pv p0 ?_))))))
    refine wpAny_bind (wpAny_holding (wpAny_truthy_bool (wpAny_bind (wpAny_letGo (wpAny_pure ?_)))))
    cases hb : bt (j + 1) (argBest bt j) with
    | true =>
      have p1 : P (argBest bt (j + 1)) v := by
        simp only [argBest, hb, if_true]
        exact pv
      simp only [if_true]
      refine wpAny_bind (wpAny_updateSeq hS1 rfl (wpAny_bind (wpAny_letGo ?_)))
      rw [nm]
      refine wpAny_pure ⟨plainId_quiet F.plain_max_loop _, ih (j + 1) (by omega) _ v (W.frame _ _ _ st1 fun b hb o e => ?_) p1 ⟨_, Heap.get?_update_self _ hS1 rfl⟩ fun v' h2 t2 pv' keep2 => ?_⟩
      · exact (Heap.get?_update_other _ _ (fun z : S = b => out (by rw [z]; exact hb))).trans e
      · exact fin v' h2 t2 pv' fun b o nb ns e => keep2 b o nb ns ((Heap.get?_update_other _ _ (Ne.symm ns)).trans (keep b o nb e))
    | false =>
      have p1 : P (argBest bt (j + 1)) v0 := by
        simp only [argBest, hb, Bool.false_eq_true, if_false]
        exact p0
      simp only [Bool.false_eq_true, if_false]
      refine wpAny_bind (wpAny_letGo ?_)
      rw [nm]
      refine wpAny_pure ⟨plainId_quiet F.plain_max_loop _, ih (j + 1) (by omega) _ v0 st1 p1 ⟨_, hS1⟩ fun v' h2 t2 pv' keep2 => ?_⟩
      exact fin v' h2 t2 pv' fun b o nb ns e => keep2 b o nb ns (keep b o nb e)

/-- max.loop with keywords, before the first item -/
theorem loop_kw0 (W : Walks prog w A.in1 I fp wr n P St) (cmp : CmpOf prog w A.in1 .Gt P bt) (out : S ∉ fp) (pos : 0 < n) {s : Shared} (st : St 0 s.heap) (kS : keptAt s.heap S #[])
    (fin : ∀ v h' tk, P (argBest bt (n - 1)) v → (∀ b o, b ∉ wr → b ≠ S → s.heap.get? b = some o → h'.get? b = some o) → R (.ok (.ret v)) { s with heap := h', toks := tk }) :
    codeAny (model prog w) A (.builtin "max.loop" ⟨[.ref I, .none, .ref S], kw⟩) R s := by
  have outW : S ∉ wr := fun z => out (W.sub _ z)
  have nm : (toString "max" ++ toString ".loop" : String) = "max.loop" := by decide
  obtain ⟨c, hS⟩ := kS
  refine codeAny_builtin F.entry_max_loop ?_ <;> rw [Around.under_plainId F.plain_max_loop _]
  show wpAny (model prog w) A.in1 (seqItems? (.ref S) >>= _) _ _ s
  refine wpAny_bind (wpAny_seqItems hS rfl (wpAny_bind (wpAny_tryCatch (W.item 0 s _ _ pos st fun v h1 t1 pv st1 keep => ?_))))
  have hS1 := keep S _ outW hS
  refine wpAny_bind (wpAny_pure (wpAny_bind (wpAny_updateSeq hS1 rfl ?_)))
  rw [nm]
  refine wpAny_pure ⟨plainId_quiet F.plain_max_loop _, loop_kw W cmp out (n - 1) 0 (by omega) _ v (W.frame _ _ _ st1 fun b hb o e => ?_) pv ⟨_, Heap.get?_update_self _ hS1 rfl⟩ fun v' h2 t2 pv' keep2 => ?_⟩
  · exact (Heap.get?_update_other _ _ (fun z : S = b => out (by rw [z]; exact hb))).trans e
  · exact fin v' h2 t2 pv' fun b o nb ns e => keep2 b o nb ns ((Heap.get?_update_other _ _ (Ne.symm ns)).trans (keep b o nb e))
/-- max.loop of nothing gives the default -/
theorem loop_none (W : Walks prog w A.in1 I fp wr 0 P St) (out : S ∉ fp) {s : Shared} (st : St 0 s.heap) (kS : keptAt s.heap S #[]) {d : Value}
    (fin : ∀ h' tk, (∀ b o, b ∉ wr → b ≠ S → s.heap.get? b = some o → h'.get? b = some o) → R (.ok (.ret d)) { s with heap := h', toks := tk }) :
    codeAny (model prog w) A (.builtin "max.loop" ⟨[.ref I, .none, .ref S], [("default", d)]⟩) R s := by
  have outW : S ∉ wr := fun z => out (W.sub _ z)
  obtain ⟨c, hS⟩ := kS
  refine codeAny_builtin F.entry_max_loop ?_ <;> rw [Around.under_plainId F.plain_max_loop _]
  show wpAny (model prog w) A.in1 (seqItems? (.ref S) >>= _) _ _ s
  refine wpAny_bind (wpAny_seqItems hS rfl (wpAny_bind (wpAny_tryCatch (W.done s _ _ st fun h1 t1 keep => ?_))))
  show wpAny (model prog w) A.in1 (rule _ >>= _) _ _ _
  refine wpAny_bind (wpAny_rule (wpAny_pure (fin h1 t1 fun b o nb _ e => keep b o nb e)))
end
section
variable {prog : Program} {w : World} {A : Around} {E : Value → Shared → Prop} {s : Shared} {l : Addr} {xs : Array (Int × Tok)}
/-- what a call of a built-in wants of its end -/
def EndOf (prog : Program) (w : World) (A : Around) (Q : Value → Shared → Prop) (E : Value → Shared → Prop) (fin : PySem.Fin) (s' : Shared) : Prop :=
  match fin with
  | .done f => (match (Except.ok f : Result) with | .ok (.ret v) => Q v s' | .ok _ => False | .error e => E e s')
  | .again c => c.quiet = true ∧ codeAny (model prog w) A c (fun r s2 => match r with | .ok (.ret v) => Q v s2 | .ok _ => False | .error e => E e s2) s'
theorem call_tree_kw {id : String} {b : Builtin} {args : List Value} {kw : List (Str × Value)} {Q : Value → Shared → Prop} (hk : builtinKind id = none) (hp : plainId id = true) (hb : entryFor table id = some b) (ha : argsOk id ⟨args, kw⟩)
    (hc : wpAny (model prog w) A.in1 (b ⟨args, kw⟩) (EndOf prog w A Q E) E s) : wpAny (model prog w) A (call (.builtin id) args kw) Q E s := by
  refine wpAny_call (codeAny_call_builtin hp hb ?_)
  simp only [checkBuiltinCall, hk]
  cases sg : Manifest.signature? id with
  | none => exact wpAny_pure hc
  | some g =>
    have e : Bind.checkArgs id g ⟨args, kw⟩ = pure () := by simpa only [argsOk, sg] using ha
    show wpAny _ _ (Bind.checkArgs id g ⟨args, kw⟩) _ _ s
    rw [e]
    exact wpAny_pure hc
theorem args_max_def (a d : Value) : argsOk "max" ⟨[a], [("default", d)]⟩ := by unfold argsOk; kernel_rfl
/-- max(l, default=d) of a list of ints -/
theorem max_def {Q : Value → Shared → Prop} {d : Value} (hh : A.handled = none) (hl : s.heap.IsList l (intItems xs))
    (h0 : xs.size = 0 → ∀ h' tk, (∀ b o, s.heap.get? b = some o → h'.get? b = some o) → Q d { s with heap := h', toks := tk })
    (h : ∀ v h' tk, 0 < xs.size → (intItems xs)[argBest (fun i j => decide (numAt xs i > numAt xs j)) (xs.size - 1)]? = some v → (∀ b o, s.heap.get? b = some o → h'.get? b = some o) → Q v { s with heap := h', toks := tk }) :
    wpAny (model prog w) A (call (.builtin "max") [.ref l] [("default", d)]) Q E s := by
  have nm : (toString "max" ++ toString ".loop" : String) = "max.loop" := by decide
  refine call_tree_kw F.kind_max F.plain_max F.entry_max (args_max_def _ _) ?_
  show wpAny (model prog w) A.in1 (Builtin.Builtins.bindParams "max" ["key", "default"] 0 ⟨[], [("default", d)]⟩ >>= _) _ _ s
  refine wpAny_bind (wpAny_of_eq (show Builtin.Builtins.bindParams "max" ["key", "default"] 0 ⟨[], [("default", d)]⟩ = pure [none, some d] from rfl) ?_)
  refine wpAny_bind (wpAny_pure (wpAny_bind (iter_intList hl fun s₂ e st hfp hlI => ?_)))
  subst e
  have W := Walks.list (prog := prog) (w := w) (A := A.in1) hh _ l hlI (intItems xs)
  refine wpAny_bind (wpAny_newObj_type ?_)
  rw [nm]
  have sf : (s.heap.push { cls := .type "list_iterator", data := .fields #[.ref l, .int 0 0] }).objs.size ∉ [s.heap.objs.size, l] := fun z => Nat.lt_irrefl _ (hfp _ z)
  refine wpAny_pure ⟨plainId_quiet F.plain_max_loop _, ?_⟩
  have push2 : ∀ (b : Addr) (o : Obj), (s.heap.push { cls := .type "list_iterator", data := .fields #[.ref l, .int 0 0] }).get? b = some o →
      ((s.heap.push { cls := .type "list_iterator", data := .fields #[.ref l, .int 0 0] }).push (seqObj "list" #[] 0)).get? b = some o := fun b o e => Heap.get?_push_of_some _ e
  have sz : (intItems xs).size = xs.size := by simp [intItems]
  have old : ∀ {h' : Heap}, (∀ b o, b ∉ [s.heap.objs.size] → b ≠ (s.heap.push { cls := .type "list_iterator", data := .fields #[.ref l, .int 0 0] }).objs.size →
      ((s.heap.push { cls := .type "list_iterator", data := .fields #[.ref l, .int 0 0] }).push (seqObj "list" #[] 0)).get? b = some o → h'.get? b = some o) → ∀ b o, s.heap.get? b = some o → h'.get? b = some o := fun k => old_kept fun b o nb e => k b o nb (Nat.ne_of_lt (Heap.lt_size e)) (push2 b o e)
  by_cases hz : xs.size = 0
  · have ez : (intItems xs).size = 0 := by rw [sz, hz]
    rw [ez] at W
    exact loop_none W sf (W.frame _ _ _ st fun b _ o e => push2 b o e) ⟨_, Heap.get?_push_size _ rfl⟩ fun h' tk keep => h0 hz h' tk (old keep)
  · refine loop_kw0 W (CmpOf.ints_gt (numAt xs) fun _ _ => intItems_at) sf (by omega) (W.frame _ _ _ st fun b _ o e => push2 b o e) ⟨_, Heap.get?_push_size _ rfl⟩ fun v h' tk pv keep => ?_
    rw [sz] at pv
    exact h v h' tk (by omega) pv (old keep)
end
/-! ### the rules by values -/
section
variable {X : Cx}
/-- max(xs, default=d) of a list of ints -/
def rMaxDef (K : PySem.W.Frag) : List V → List V → Hp → VK → Prop := fun vs zs H Q => ∃ (a : Addr) (ns : List Int) (d : V), vs = [.ref a] ∧ zs = [d] ∧ SqL K H a (ns.map V.int) ∧
  (ns = [] → Q d H) ∧ ∀ m, m ∈ ns → (∀ y ∈ ns, y ≤ m) → Q (.int m) H
theorem cr_maxDef (hc : X.calm = true) : CallRK X (.builtin "max") [Str.ofString "default"] (rMaxDef X.K) := by
  intro pins s σ H vs zs us ws Q I r rz h
  obtain ⟨a, ns, d, rfl, rfl, hs, q0, q⟩ := h
  obtain rfl := Vals.ref1 r
  obtain ⟨w1, rfl, rd⟩ := vals1 rz
  obtain ⟨its, rv, hl, _⟩ := I.list hs
  obtain ⟨xs, e⟩ := rv.ints.allInts.items
  have hn : numsOf (intItems xs).toList = ns := by
    rw [← e]
    exact rv.ints.numsOf
  rw [nums_intItems] at hn
  subst hn
  have hl2 := hl.isList
  rw [e] at hl2
  refine max_def (I.ok.hd hc) hl2 (fun z h' tk hk => ⟨d, H, I.kept hk, rd, q0 ?_⟩) fun v h' tk pos hv hk => ?_
  · have : xs.toList = [] := by
      apply List.eq_nil_of_length_eq_zero
      simpa using z
    rw [this]
    rfl
  · obtain ⟨t, rfl⟩ := intItems_at hv
    obtain ⟨h1, h2⟩ := argBest_gt (numAt xs) (xs.size - 1)
    refine ⟨.int _, H, I.kept hk, ⟨_, rfl⟩, q _ ?_ fun y hy => ?_⟩
    · rw [numAt_eq]
      exact PySem.getD_mem (by rw [List.length_map, Array.length_toList]; omega)
    · obtain ⟨j, hj, rfl⟩ := mem_getD hy
      rw [List.length_map, Array.length_toList] at hj
      rw [← numAt_eq]
      exact h2 j (by omega)

theorem idx_ahead : ∀ (l : List Int) (n : Int) (m : Nat) (h : m < l.length), m < l.idxOf n → l[m] ≠ n
  | x :: r, n, m, h, k => by
    rw [List.idxOf_cons] at k
    by_cases e : (x == n) = true
    · rw [e] at k
      simp at k
    · have e' : (x == n) = false := by simpa using e
      rw [e'] at k
      cases m with
      | zero => exact fun z => e (by show (x == n) = true; exact beq_iff_eq.mpr z)
      | succ m =>
        have k' : m < r.idxOf n := by simpa using k
        exact idx_ahead r n m (by simpa using h) k'
/-- t.index(y), flat items, the first place -/
def rIndexT (K : PySem.W.Frag) : V → List V → Hp → VK → Prop := fun x xs H Q => ∃ (a : Addr) (ns : List Int) (n : Int), x = .ref a ∧ xs = [.int n] ∧ SqT K H a (ns.map V.int) ∧ n ∈ ns ∧ Q (.int (ns.idxOf n : Nat)) H
theorem mt_indexT : MtR X "tuple.index" (rIndexT X.K) := by
  intro pins s σ H x xs v us Q I rx rs h
  obtain ⟨p, ns, n, rfl, rfl, hq, hm, q⟩ := h
  cases rx
  obtain ⟨u, rfl, t, rfl⟩ := vals1 rs
  obtain ⟨its, r, pl, hz⟩ := I.tuple hq
  obtain ⟨⟨cls, dd, dt, sl⟩, ho, hc, c, hd⟩ := pl
  simp only at hc hd
  subst hc
  subst hd
  have len : its.length = ns.length := by rw [← r.length, List.length_map]
  have hj : ns.idxOf n < its.toArray.size := by
    rw [List.size_toArray, len]
    exact List.idxOf_lt_length_iff.mpr hm
  have item : ∀ (m : Nat) (h1 : m < its.toArray.size) (h2 : m < ns.length), ∃ t', its.toArray[m] = Value.int ns[m] t' := fun m h1 h2 => by
    obtain ⟨w', e1, t', e2⟩ := r.get (i := m) (x := .int ns[m]) (by simp [h2])
    refine ⟨t', ?_⟩
    have e3 := (List.getElem?_eq_some_iff.mp e1).2
    rw [← e2, ← e3]
    simp
  have hf : (ns.map V.int).all flatV = true := by
    rw [List.all_map]
    exact List.all_eq_true.mpr fun _ _ => rfl
  refine call_meets PySem.F.slot_tuple_index ⟨_, ho, rfl⟩ PySem.F.entry_tuple_index (PySem.F.args_tuple_index_2 _ _) (TI.tuple_indexAt p its.toArray c dd sl (.int n t) (eqU (.int n)) (ns.idxOf n) hj ?_ ?_)
    ⟨ho, fun y hy => mem_eqAt (x := .int n) ⟨t, rfl⟩ rfl r hf y (by simpa using hy), ⟨.int (ns.idxOf n : Nat), H, I.tok _, ⟨_, rfl⟩, q⟩⟩
  · obtain ⟨t', e⟩ := item _ hj (List.idxOf_lt_length_iff.mpr hm)
    rw [e]
    show eqU (.int n) (Value.int _ t') = true
    rw [List.getElem_idxOf]
    show (n == n) = true
    exact beq_self_eq_true n
  · intro m h1 h2
    have h3 : m < ns.length := by
      rw [← len, ← List.size_toArray]
      exact h1
    obtain ⟨t', e⟩ := item m h1 h3
    rw [e]
    have k := idx_ahead ns n m h3 h2
    show (ns[m] == n) = false
    exact beq_eq_false_iff_ne.mpr k
/-- f(k = v, ..): keywords alone -/
theorem pe_callK0 {CX : CXT} {k : Nat} {f : Addr} {fd : FuncData} {ps ks : List Str} {sp : Sp} {E : XK} {x : Str} {p pos : Pos} {kws : List Keyword} {tk : TA} {g : List Value → List Value → List Value} {gV : List V → List V → List V}
    (F : FnOk X.prog X.w X.K X.mg X.base CX k f fd ps sp) (hr : Room k X.A) (hg : Gl X x) (hm : X.mg x = some (.ref f)) (hk : PySem.W.keepIn X.K (.ref f) = true) (hb : KBinds X.K fd ps ks g gV) (hx : Passes CX X E) (hkw : PK X kws tk)
    (hall : (backToKw pos (keywordEach kws X.env)).all (·.1.isSome) = true := by rfl) (hks : (backToKw pos (keywordEach kws X.env)).filterMap (·.1) = ks := by rfl) (hdb : (x == ("__debug__" : Str)) = false := by decide)
    (hpl : ((backTo pos (starEach [] X.env)).any (·.1) || (backToKw pos (keywordEach kws X.env)).any (·.1.isNone)) = false := by rfl) : PE X (.Call (.Name x p) [] kws pos) (tCallK sp gV E tNil tk) := by
  refine ⟨fun pins s σ H Q I h => wpAny_Call_Name_kw (ld_glob I hg hm ?_ hdb)⟩
  refine PySem.W.callWith_KW0 (h₀ := X.base) I.ok.mod.kin hk hall (thn (hkw.run pos pins s σ H _ I h) fun ws s1 ⟨zs, H1, I1, rz, q1⟩ => ⟨I1.kIn, ?_⟩) hpl
  rw [hks]
  exact run_fnk F hr hb hx I1 .nil rz q1
/-- a method's call within a comprehension: the written part by its own name -/
theorem pe_bmK {K : PySem.W.Frag} {e : Expr} {T : String} {r : V → List V → Hp → VK → Prop} {to : TE} {t : TA} (hK : X.K = K) (h : PE X e (tBM X.K T r to t)) : PE X e (tBM K T r to t) := by
  subst hK
  exact h
/-! ### tuples without a dict, and their methods -/
/-- a tuple at a whose object is known to have no dict -/
def FzT (H : Hp) (a : Addr) (xs : List V) : Prop := ∃ o : Obj, H a = some (.frz o (.tup xs)) ∧ o.dict = none
theorem FzT.sq {K : PySem.W.Frag} {H : Hp} {a : Addr} {xs : List V} (h : FzT H a xs) : SqT K H a xs := by
  obtain ⟨o, h1, _⟩ := h
  exact .inl (.inr ⟨o, h1⟩)
/-- (a, b, ..), its object known -/
def tTupF (t : TA) : TE := fun σ H Q => t σ H fun xs H1 => xs.length ≤ sizeLine ∧ ∀ (p : Addr) (o : Obj), H1 p = none → o.dict = none → Q (.ref p) (upd H1 p (.frz o (.tup xs)))
theorem pe_tupF {es : List Expr} {t : TA} {k : Nat} {pos : Pos} (h : PA X es t) : PE X (.Tuple es k pos) (tTupF t) := by
  refine ⟨fun pins s σ H Q I hq => wpAny_Tuple_spliced (thn (h.run pos pins s σ H _ I hq) fun us s1 ⟨xs, H1, I1, r, z, q⟩ => ⟨by rw [← r.length]; exact z, ?_⟩)⟩
  refine ⟨.ref s1.heap.objs.size, _, I1.laid (t' := s1.toks) (fun b u e => Heap.get?_push_of_some _ e) (Nat.le_refl _) ?_, rfl, q _ { cls := .type "tuple", data := .seq us.toArray } (I1.hok.fresh (Nat.le_refl _)) rfl⟩
  exact ⟨Heap.get?_push_size _ rfl, z, us, r, _, Heap.get?_push_size _ rfl, rfl, _, rfl⟩
/-- tuple(l) of a list, its object known -/
theorem call_tupleF : CallR X (.type "tuple") (fun xs H Q => ∃ p ys, xs = [.ref p] ∧ SqL X.K H p ys ∧ ∀ (l : Addr) (o : Obj), H l = none → o.dict = none → Q (.ref l) (upd H l (.frz o (.tup ys)))) := by
  intro pins s σ H xs us Q I r h
  obtain ⟨p, ys, rfl, hq, q⟩ := h
  obtain ⟨u, rfl, rx⟩ := vals1 r
  cases rx
  obtain ⟨its, rv, pl, hz⟩ := I.list hq
  have len := rv.length
  refine call_tuple_list pl.isList (fun h1 kp => ?_) (by simp only [List.size_toArray] <;> omega)
  have I1 : Inv X pins σ H { s with heap := h1 } := I.kept (t' := s.toks) kp
  refine ⟨.ref h1.objs.size, _, I1.laid (o := .frz { cls := .type "tuple", data := .seq its.toArray } (.tup ys)) (t' := s.toks) (fun b o e => Heap.get?_push_of_some _ e) (Nat.le_refl _) ?_, rfl, q _ _ (I1.hok.fresh (Nat.le_refl _)) rfl⟩
  exact ⟨Heap.get?_push_size _ rfl, hz, its, rv, IsTup.new _ _⟩
/-- t.m(e, ..) of such a tuple -/
def tBMT (r : V → List V → Hp → VK → Prop) (to : TE) (t : TA) : TE := fun σ H Q => to σ H fun x H1 => (∃ a xs, x = .ref a ∧ FzT H1 a xs) ∧ t σ H1 fun vs H2 => r x vs H2 Q
theorem pe_bmT {r : V → List V → Hp → VK → Prop} {name : Str} {id : String} {o e : Expr} {es : List Expr} {to : TE} {t : TA} {apos cpos : Pos} (slot : Slot "tuple" name id) (hty : typeOf (.builtin id) = pure (.type "method_descriptor")) (hm : MtR X id r) (ho : PE X o to) (ha : PA X (e :: es) t)
    (hbase : attributeBase o name X.env (eval o X.env) = eval o X.env := by rfl)
    (hfew : ((backTo cpos (starEach (e :: es) X.env)).all (fun x => !x.1) && (backToKw cpos (keywordEach [] X.env)).all (fun x => x.1.isSome) && decide ((e :: es).length + ([] : List Keyword).length + (if ([] : List Keyword).isEmpty then 0 else 1) < 30)) = true := by rfl)
    (hline : (apos.endLine == cpos.line) = true := by rfl) (hs : starEach (e :: es) X.env = (false, eval e X.env) :: starEach es X.env := by rfl) (hplain : (backTo cpos (starEach es X.env)).any (·.1) = false := by rfl) :
    PE X (.Call (.Attribute o name apos) (e :: es) [] cpos) (tBMT r to t) := by
  refine ⟨fun pins s σ H Q I h => wpAny_Call_method_late hbase hfew hline rfl (thn (ho.run pins s σ H _ I h) fun v s1 ⟨x, H1, I1, r1, ⟨a, xs, ex, ob, e1, e2⟩, q1⟩ => ?_)⟩
  subst ex
  obtain rfl : v = Value.ref a := r1
  obtain ⟨g1, _, its, rv, ob', g2, g3, _⟩ := I1.hok a _ e1
  obtain rfl : ob = ob' := Option.some.inj (g1.symm.trans g2)
  have hA := ha.run cpos pins s1 σ H1 _ I1 q1
  refine ⟨"tuple", id, PySem.F.plainAttrs_tuple, slot, hty, ⟨ob, g1, g3⟩, fun b eb => ?_, ?_⟩
  · cases eb
    exact ⟨ob, g1, e2⟩
  · rw [hs] at hA ⊢
    refine Calls.callWith_builtin ?_ (Calls.evalArgs_plain (thn hA fun us s2 ⟨vs, H2, I2, r2, q2⟩ => hm pins s2 σ H2 (.ref a) vs _ us Q I2 rfl r2 q2))
    show (false || (backTo cpos (starEach es X.env)).any (·.1)) = false
    rw [hplain]
    rfl
/-- a power of a great number -/
def CPowW (i j : Int) : Prop := 0 ≤ j ∧ j ≤ 1000 ∧ i.natAbs < 2 ^ 1000
theorem op_powW : OpR X (binaryOp .Pow) (rI CPowW fun i j => .int (i ^ j.toNat)) := opI fun i j _ _ _ _ _ hc q => pow_int hc.1 (by
  obtain ⟨h1, h2, h3⟩ := hc
  have hb : Builtin.Int.intBits i ≤ 1001 := by
    unfold Builtin.Int.intBits
    split
    · omega
    · by_cases z : i.natAbs = 0
      · rw [z]
        decide
      · have := (Nat.log2_lt z).mpr h3
        omega
  have : (Builtin.Int.intBits i : Int) * j ≤ 1001 * 1000 := Int.mul_le_mul (by omega) h2 h1 (by omega)
  have e : (2 : Int) ^ 27 = 134217728 := by decide
  rw [e]
  omega) q
end
end GL

set_option Elab.async false
set_option linter.all false
set_option maxRecDepth 100000
set_option maxHeartbeats 4000000
/-! the law's own drawing: box, take, of -/
namespace M02
open PySem PySem.Spec PyProof.Rows L2 GL
def topS (i : Nat) : Stmt := PySem.Challenge.pw_sourceback_k02_tokens_of_texts.main.body.getD i (.Pass ⟨0, 0, 0, 0⟩)
abbrev sPart : Stmt := topS 12
abbrev sRun : Stmt := topS 13
abbrev sTokEnd : Stmt := topS 14
abbrev sGap : Stmt := topS 15
abbrev sTokens : Stmt := topS 16
abbrev sBox : Stmt := topS 18
abbrev sTake : Stmt := topS 19
abbrev sOf : Stmt := topS 20
abbrev sPlain : Stmt := topS 21
abbrev sSimple : Stmt := topS 22
abbrev sValue : Stmt := topS 23
abbrev sPaths : Stmt := topS 24
abbrev sBody : Stmt := topS 25
abbrev sLoop : Stmt := topS 26
abbrev sEntries : Stmt := topS 27
abbrev sBook : Stmt := topS 28
abbrev sLSig : Stmt := topS 29
abbrev sVSig : Stmt := topS 30
abbrev sBSig : Stmt := topS 31
abbrev sSigns : Stmt := topS 32
abbrev sText : Stmt := topS 33
abbrev sLStr : Stmt := topS 34
abbrev sLTok : Stmt := topS 35
abbrev sLToks : Stmt := topS 36
abbrev sToken : Stmt := topS 37
abbrev sParts : Stmt := topS 38
abbrev sPut : Stmt := topS 39
abbrev sRight : Stmt := topS 40
abbrev sLaw : Stmt := topS 41
theorem scB : FnScope ["_law_script", "_law_k", "_law_digits", "_law_own"] ["_law_script", "_law_k"] (defScope sBox) := ⟨rfl, rfl, rfl, by decide +kernel, rfl, by decide +kernel, by decide +kernel⟩
theorem scT : FnScope ["_law_box_here", "_law_many", "_law_digit", "_law_mixed"] ["_law_box_here", "_law_many"] (defScope sTake) := ⟨rfl, rfl, rfl, by decide +kernel, rfl, by decide +kernel, by decide +kernel⟩
theorem scO : FnScope ["_law_box_here", "_law_some"] ["_law_box_here", "_law_some"] (defScope sOf) := ⟨rfl, rfl, rfl, by decide +kernel, rfl, by decide +kernel, by decide +kernel⟩

structure Bl (K : PySem.W.Frag) (mg : Str → Option Value) : Prop where
  len : mg "len" = none
  abs : mg "abs" = none
  int : mg "int" = none
  max : mg "max" = none
  min : mg "min" = none
  range : mg "range" = none
  list : mg "list" = none
  repr : mg "repr" = none
  all : mg "all" = none
  isinstance : mg "isinstance" = none
  str : mg "str" = none
  tuple : mg "tuple" = none
  sorted : mg "sorted" = none
  ord : mg "ord" = none
  dict : mg "dict" = none
  enumerate : mg "enumerate" = none
  bool : mg "bool" = none
  cletters : ∃ t, mg "LETTERS" = some (.str "abcdefghijklmnopqrstuvwxyz" t)
  cdigits : ∃ t, mg "DIGITS" = some (.str "0123456789" t)
  csigns : ∃ t, mg "SIGNS" = some (.str "{}[]():.,=+-*" t)
  cquote : ∃ t, mg "QUOTE" = some (.str "\"" t)
  cbackslash : ∃ t, mg "BACKSLASH" = some (.str "\\" t)
  cremark : ∃ t, mg "REMARK" = some (.str "#" t)
  cfeed : ∃ t, mg "FEED" = some (.str "\n" t)
  cmostinstring : ∃ t, mg "MOST_IN_STRING" = some (.int 60 t)
  cleastcode : ∃ t, mg "LEAST_CODE" = some (.int 32 t)
  cmostcode : ∃ t, mg "MOST_CODE" = some (.int 126 t)
  cgaps : ∃ a, mg "GAPS" = some (.ref a) ∧ ∀ H, SqT K H a [.str " ", .str "\n"]
/-- a box at b, of which at most n mixed numbers were drawn -/
def Box (H : Hp) (b : Addr) (n : Nat) : Prop := ∃ o m c : Int, H b = some (.lst [.int o, .int m, .int c]) ∧ 0 ≤ o ∧ 0 ≤ m ∧ m < 2 ^ 62 ∧ 0 ≤ c ∧ c ≤ n
theorem Box.mono {H : Hp} {b : Addr} {n k : Nat} (h : Box H b n) (e : n ≤ k) : Box H b k := by
  obtain ⟨o, m, c, h1, h2, h3, h4, h5, h6⟩ := h
  exact ⟨o, m, c, h1, h2, h3, h4, h5, by omega⟩

/-- an expression in two ways, its value by what is known of it -/
theorem if_any {t : TT} {a b : TE} {σ : L2.St} {H : Hp} {Q : VK} {R : V → Prop} (h : ∀ Q' : VK, (∀ v, R v → Q' v H) → tIf t a b σ H Q') (q : ∀ v, R v → Q v H) : tIf t a b σ H Q := h Q q
section
variable {P : Program} {w : World} {K : PySem.W.Frag} {mg : Str → Option Value} {base : Heap}

def spTake : Sp := fun vs H Q _ => ∃ (b : Addr) (many : Int) (n : Nat), vs = [.ref b, .int many] ∧ Box H b n ∧ n < 1000000 ∧ 0 < many ∧ many < 1000000 ∧
  ∀ (r : Int) (u : HO), 0 ≤ r → r < many → Box (upd H b u) b (n + 1) → Q (.int r) (upd H b u)
theorem ok_take {f : Addr} {fd : FuncData} {k : Nat} (F : Fun K "_law_take" "_law_take" sTake f fd) : FnOk P w K mg base CX0 (k + 1) f fd ["_law_box_here", "_law_many"] spTake := by
  refine F.ok scT (fun vs H Q E h => ?_) (fun cdv A outer s H vs Q E hr h => ?_)
  · obtain ⟨b, many, n, rfl, _⟩ := h
    rfl
  · obtain ⟨b, many, n, rfl, ⟨o, m, c, hb, ho, hm, hm2, hc, hcn⟩, hn, h0, h1, q⟩ := h
    refine ⟨_, (pss_cons (ps_if (pt_cmpR op_gt (pe_ix ix_list (pv 0) pe_int (fun _ _ => rfl)) pe_int (nomark _))
        (pss_cons (ps_set (i := 2) scT.nd rfl (Or.inl rfl) (pe_op op_mod (pe_ix ix_list (pv 0) pe_int (fun _ _ => rfl)) (pv 1)))
        (pss_cons (ps_asg (pe_op op_fdivW (pe_ix ix_list (pv 0) pe_int (fun _ _ => rfl)) (pv 1)) (pg_sub (pv 0) pe_int set_list))
        (pss_one (ps_ret (pv 2)))))
        pss_nil)
      (pss_cons (ps_asg (pe_op op_add (pe_ix ix_list (pv 0) pe_int (fun _ _ => rfl)) pe_int) (pg_sub (pv 0) pe_int set_list))
      (pss_cons (ps_set (i := 3) scT.nd rfl (Or.inl rfl) (pe_op op_mod (pe_op op_mul (pe_op op_add (pe_op op_add (pe_ix ix_list (pv 0) pe_int (fun _ _ => rfl)) (pe_op op_mul (pe_op op_mul pe_int (pe_ix ix_list (pv 0) pe_int (fun _ _ => rfl))) (pe_ix ix_list (pv 0) pe_int (fun _ _ => rfl)))) pe_int) pe_int) pe_int))
      (pss_cons (ps_set (i := 3) scT.nd rfl (Or.inl rfl) (pe_op op_mod (pe_op op_mul (pv 3) (pe_op op_add (pe_op op_mod (pv 3) pe_int) (pe_op op_mul pe_int (pe_ix ix_list (pv 0) pe_int (fun _ _ => rfl))))) pe_int))
      (pss_one (ps_ret (pe_op op_mod (pe_op op_add (pe_op op_fdiv (pv 3) pe_int) (pe_op op_fdiv (pv 3) pe_int)) (pv 1)))))))), ?_⟩
    have hL : SqL K H b [.int o, .int m, .int c] := SqL.of hb
    refine ⟨.ref b, rfl, b, _, 0, .int o, rfl, rfl, hL, rfl, o, 0, rfl, rfl, _, rfl, ite2 (fun e => ?_) (fun e => ?_)⟩
    · have e : 0 < o := of_decide_eq_true e
      refine ⟨.ref b, rfl, b, _, 0, .int o, rfl, rfl, hL, rfl, .int many, rfl, o, many, rfl, rfl, h0, ?_⟩
      refine ⟨.ref b, rfl, b, _, 0, .int o, rfl, rfl, hL, rfl, .int many, rfl, o, many, rfl, rfl, wide_div (b := 20) h0 (by omega) (by decide) (by decide), ?_⟩
      refine ⟨.ref b, rfl, b, _, 0, 0, rfl, rfl, hb, rfl, ?_⟩
      refine ⟨.int (o % many), rfl, ?_⟩
      refine q (o % many) _ (Int.emod_nonneg _ (by omega)) (Int.emod_lt_of_pos _ h0) ⟨o / many, m, c, upd_same, Int.ediv_nonneg ho (by omega), hm, hm2, hc, by omega⟩
    · refine ⟨.ref b, rfl, b, _, 2, .int c, rfl, rfl, hL, rfl, c, 1, rfl, rfl, ?_⟩
      refine ⟨.ref b, rfl, b, _, 2, 2, rfl, rfl, hb, rfl, ?_⟩
      have hb2 : (upd H b (.lst [.int o, .int m, .int (c + 1)])) b = some (.lst [.int o, .int m, .int (c + 1)]) := upd_same
      have hL2 : SqL K (upd H b (.lst [.int o, .int m, .int (c + 1)])) b [.int o, .int m, .int (c + 1)] := SqL.of hb2
      refine ⟨.ref b, rfl, b, _, 1, .int m, rfl, rfl, hL2, rfl, .ref b, rfl, b, _, 2, .int (c + 1), rfl, rfl, hL2, rfl, 65551, c + 1, rfl, rfl, .inl ⟨by decide, by decide⟩, .ref b, rfl, b, _, 2, .int (c + 1), rfl, rfl, hL2, rfl,
        65551 * (c + 1), c + 1, rfl, rfl, .inr ⟨by omega, by omega⟩, m, 65551 * (c + 1) * (c + 1), rfl, rfl, _, 29, rfl, rfl, _, 48281, rfl, rfl, .inr ⟨by decide, by decide⟩, _, 2305843009213693921, rfl, rfl, by show (0 : Int) < _; decide, ?_⟩
      dsimp only
      generalize hx : (m + 65551 * (c + 1) * (c + 1) + 29) * 48281 % 2305843009213693921 = x
      have x0 : 0 ≤ x := by rw [← hx]; exact Int.emod_nonneg _ (by decide)
      have x1 : x < 2305843009213693921 := by rw [← hx]; exact Int.emod_lt_of_pos _ (by decide)
      refine ⟨.int x, rfl, .int x, rfl, x, 1000039, rfl, rfl, by show (0 : Int) < _; decide, .ref b, rfl, b, _, 2, .int (c + 1), rfl, rfl, hL2, rfl, 99989, c + 1, rfl, rfl, .inl ⟨by decide, by decide⟩, _, _, rfl, rfl, x, _, rfl, rfl, .inl ⟨by omega, by omega⟩,
        _, 2305843009213693907, rfl, rfl, by show (0 : Int) < _; decide, ?_⟩
      dsimp only
      generalize hy : x * (x % 1000039 + 99989 * (c + 1)) % 2305843009213693907 = y
      have y0 : 0 ≤ y := by rw [← hy]; exact Int.emod_nonneg _ (by decide)
      refine ⟨.int y, rfl, y, 109, rfl, rfl, ⟨by decide, by decide⟩, .int y, rfl, y, 1000081, rfl, rfl, ⟨by decide, by decide⟩, _, _, rfl, rfl, .int many, rfl, _, many, rfl, rfl, h0, ?_⟩
      exact q _ _ (Int.emod_nonneg _ (by omega)) (Int.emod_lt_of_pos _ h0) ⟨o, m, c + 1, hb2, ho, hm, hm2, by omega, by omega⟩

def spBox (K : PySem.W.Frag) : Sp := fun vs H Q _ => ∃ (a : Addr) (ns : List Int) (k : Nat), vs = [.ref a, .int k] ∧ SqL K H a (ns.map V.int) ∧ k < 1000 ∧
  ∀ (p : Addr) (u : HO), H p = none → Box (upd H p u) p 0 → Q (.ref p) (upd H p u)
theorem ok_box {f : Addr} {fd : FuncData} {k : Nat} (F : Fun K "_law_box" "_law_box" sBox f fd) (T : Bl K mg) : FnOk P w K mg base CX0 (k + 1) f fd ["_law_script", "_law_k"] (spBox K) := by
  refine F.ok scB (fun vs H Q E h => ?_) (fun cdv A outer s H vs Q E hr h => ?_)
  · obtain ⟨a, ns, k, rfl, _⟩ := h
    rfl
  · obtain ⟨a, ns, k, rfl, hS, hk, q⟩ := h
    refine ⟨_, (pss_cons (ps_set (i := 2) scB.nd rfl (Or.inl rfl) (pe_ifExp (pt_cmpR op_lt (pv 1) (pe_callB call_len_seq (by rfl) T.len (by decide +kernel) (pa_cons (pv 0) pa_nil)) (nomark _)) (pe_ix ix_list (pv 0) (pv 1) (fun _ _ => rfl)) (pe_op op_add (pe_op op_mul pe_int (pv 1)) pe_int)))
      (pss_cons (ps_set (i := 3) scB.nd rfl (Or.inl rfl) (pe_op op_mul (pe_op op_mod (pe_callB call_abs (by rfl) T.abs (by decide +kernel) (pa_cons (pv 2) pa_nil)) (pe_op op_powW (pe_op op_pow pe_int pe_int) pe_int)) (pe_callTy call_int1 (by rfl) T.int (by decide +kernel) (pa_cons (pe_cmpR op_ge (pe_callB call_abs (by rfl) T.abs (by decide +kernel) (pa_cons (pv 2) pa_nil)) (pe_op op_pow pe_int pe_int) (nomark _)) pa_nil))))
      (pss_one (ps_ret (pe_lst (pa_cons (pv 3) (pa_cons (pe_op op_mod (pe_op op_add (pe_op op_add (pe_op op_mul (pe_op op_mod (pv 2) pe_int) pe_int) (pe_op op_mul (pe_op op_mul pe_int (pv 1)) (pv 1))) pe_int) pe_int) (pa_cons pe_int pa_nil)))))))), ?_⟩
    refine if_any (R := fun v => ∃ d : Int, v = .int d) (fun Q' q' => ?_) (fun v hv => ?_)
    · refine ⟨.int k, rfl, .ref a, rfl, a, _, rfl, .inl hS, (k : Int), _, rfl, rfl, _, rfl, ite2 (fun e => ?_) (fun e => ?_)⟩
      · have e : (k : Int) < ((ns.map V.int).length : Int) := of_decide_eq_true e
        have hl : k < ns.length := by
          rw [List.length_map] at e
          omega
        exact ⟨.ref a, rfl, .int k, rfl, a, _, (k : Int), .int ns[k], rfl, rfl, hS, atI_nat (by simp [hl]), q' _ ⟨_, rfl⟩⟩
      · exact ⟨.int k, rfl, 37, (k : Int), rfl, rfl, .inl ⟨by decide, by decide⟩, 37 * (k : Int), 5, rfl, rfl, q' _ ⟨_, rfl⟩⟩
    · obtain ⟨d, rfl⟩ := hv
      refine ⟨.int d, rfl, d, rfl, 10, 60, rfl, rfl, ⟨by decide, by decide, by decide⟩, 10 ^ 60, 5, rfl, rfl, ⟨by decide, by decide, by decide +kernel⟩, _, (10 ^ 60) ^ 5, rfl, rfl, by show (0 : Int) < _; decide +kernel, .int d, rfl, d, rfl, 10, 18, rfl, rfl, ⟨by decide, by decide, by decide⟩, _, 10 ^ 18, rfl, rfl, .inr ⟨_, rfl, ?_⟩⟩
      generalize (if d < 0 then -d else d) = e
      have hb : ∀ k : Bool, CMul (e % (10 ^ 60) ^ 5) (if k = true then 1 else 0) := fun k => .inr (by cases k <;> exact ⟨by decide, by decide⟩)
      refine ⟨_, _, rfl, rfl, hb _, ?_⟩
      dsimp only
      have ho : ∀ k : Bool, 0 ≤ e % (10 ^ 60) ^ 5 * (if k = true then 1 else 0) := fun k => Int.mul_nonneg (Int.emod_nonneg _ (by decide +kernel)) (by cases k <;> decide)
      have h2 := ho (decide (10 ^ 18 ≤ e))
      generalize (e % (10 ^ 60) ^ 5 * (if decide (10 ^ 18 ≤ e) = true then 1 else 0)) = o at h2
      refine ⟨.int o, rfl, .int d, rfl, d, 2305843009213693951, rfl, rfl, by show (0 : Int) < _; decide, _, 70079, rfl, rfl, .inr ⟨by decide, by decide⟩, .int k, rfl, 4799, (k : Int), rfl, rfl, .inl ⟨by decide, by decide⟩, .int k, rfl, _, (k : Int), rfl, rfl, .inr ⟨by omega, by omega⟩,
        _, _, rfl, rfl, _, 71, rfl, rfl, _, 2305843009213693921, rfl, rfl, by show (0 : Int) < _; decide, by show 3 ≤ sizeLine; decide, fun p hp => ?_⟩
      dsimp only
      exact q p _ hp ⟨o, _, 0, upd_same, h2, Int.emod_nonneg _ (by decide), Int.lt_trans (Int.emod_lt_of_pos _ (by decide)) (by decide), by decide, by decide⟩

def spOf : Sp := fun vs H Q _ => ∃ (b l : Addr) (xs : List V) (n : Nat), vs = [.ref b, .ref l] ∧ H l = some (.lst xs) ∧ l ≠ b ∧ Box H b n ∧ n < 1000000 ∧ 0 < xs.length ∧ xs.length < 1000000 ∧
  ∀ (x : V) (u : HO), x ∈ xs → Box (upd H b u) b (n + 1) → Q x (upd H b u)
theorem ok_of {f : Addr} {fd : FuncData} {k : Nat} (F : Fun K "_law_of" "_law_of" sOf f fd) (T : Bl K mg) (d_take : DnG P w K mg base "_law_take" 1 ["_law_box_here", "_law_many"] spTake) : FnG P w K mg base CX0 (k + 2) f fd ["_law_box_here", "_law_some"] spOf := by
  refine okG0 F scO (fun vs H Q E h => ?_) (fun cdv A outer s H vs Q E hr hG h => ?_)
  · obtain ⟨b, l, xs, n, rfl, _⟩ := h
    rfl
  · obtain ⟨b, l, xs, n, rfl, hl, ne, hB, hn, h0, h1, q⟩ := h
    refine ⟨_, (pss_one (ps_ret (pe_ix ix_list (pv 1) (pe_callG d_take.ok (hr.mono (Nat.le_add_left 1 k)) hG (by rfl) d_take.g d_take.kp d_take.b .nil pass0 (pa_cons (pv 0) (pa_cons (pe_callB call_len_seq (by rfl) T.len (by decide +kernel) (pa_cons (pv 1) pa_nil)) pa_nil))) (fun _ _ => rfl)))), ?_⟩
    refine ⟨.ref l, rfl, .ref b, rfl, .ref l, rfl, l, xs, rfl, .inl (SqL.of hl), b, xs.length, n, rfl, hB, hn, by omega, by omega, fun r u r0 r1 hB2 => ?_⟩
    obtain ⟨j, rfl⟩ : ∃ j : Nat, r = j := ⟨r.toNat, by omega⟩
    have hj : j < xs.length := by omega
    exact ⟨l, xs, j, xs[j], rfl, rfl, SqL.of (by rw [upd_ne ne]; exact hl), atI_nat (List.getElem?_eq_getElem hj), q _ u (List.getElem_mem hj) hB2⟩
end
/-- all but b is as it was -/
def Off (b : Addr) (H H' : Hp) : Prop := ∀ a o, a ≠ b → H a = some o → H' a = some o
theorem Off.refl (b : Addr) (H : Hp) : Off b H H := fun _ _ _ h => h
theorem Off.trans {b : Addr} {H H1 H2 : Hp} (x : Off b H H1) (y : Off b H1 H2) : Off b H H2 := fun a o n h => y a o n (x a o n h)
theorem Off.box {b : Addr} {H : Hp} {u : HO} : Off b H (upd H b u) := fun a o n h => by
  rw [upd_ne n]
  exact h
theorem Off.new {b p : Addr} {H : Hp} {u : HO} (hp : H p = none) : Off b H (upd H p u) := fun a o _ h => by
  rw [upd_ne (ne_of_none h hp)]
  exact h
/-- what H did not know may change -/
theorem Off.put {b p : Addr} {H H' : Hp} {u : HO} (x : Off b H H') (hp : H p = none) : Off b H (upd H' p u) := fun a o n h => by
  rw [upd_ne (ne_of_none h hp)]
  exact x a o n h
theorem Box.new {H : Hp} {b p : Addr} {n : Nat} {u : HO} (h : Box H b n) (ne : p ≠ b) : Box (upd H p u) b n := by
  obtain ⟨o, m, c, h1, h2⟩ := h
  exact ⟨o, m, c, by rw [upd_ne ne.symm]; exact h1, h2⟩
theorem Box.ne {H : Hp} {b p : Addr} {n : Nat} (h : Box H b n) (hp : H p = none) : p ≠ b := fun e => by
  obtain ⟨o, m, c, h1, h2⟩ := h
  rw [← e, hp] at h1
  cases h1
/-! ### lists of ints as data -/
abbrev iVs (ns : List Int) : List V := ns.map V.int
theorem erase_map : ∀ (ns : List Int) (j : Nat), (iVs ns).eraseIdx j = iVs (ns.eraseIdx j)
  | [], _ => rfl
  | _ :: _, 0 => rfl
  | n :: r, j + 1 => by
    show V.int n :: (iVs r).eraseIdx j = V.int n :: iVs (r.eraseIdx j)
    rw [erase_map r j]
theorem erase_perm : ∀ (ns : List Int) (j : Nat) (h : j < ns.length), (ns[j] :: ns.eraseIdx j).Perm ns
  | n :: r, 0, _ => List.Perm.refl _
  | n :: r, j + 1, h => by
    have hj : j < r.length := by simpa using h
    have ih := erase_perm r j hj
    exact (List.Perm.swap n r[j] _).trans (ih.cons n)
theorem dpI (K : PySem.W.Frag) (H : Hp) : ∀ ns : List Int, DpAll K H (iVs ns) (ns.map PyData.int)
  | [] => .nil
  | n :: r => .cons (.int n) (dpI K H r)
theorem layI : ∀ ns : List Int, PyData.canLayAll0 (ns.map PyData.int) = true
  | [] => rfl
  | n :: r => by
    rw [List.map_cons, PyData.canLayAll0, layI r]
    rfl
theorem depI : ∀ ns : List Int, PyData.depthAll (ns.map PyData.int) ≤ 1
  | [] => by decide
  | n :: r => by
    have := depI r
    rw [List.map_cons, PyData.depthAll]
    simp [PyData.depth]
    omega
theorem shI (ns : List Int) : SeqAt.shaped (.list (ns.map PyData.int)) = true := by
  unfold SeqAt.shaped
  have h1 : PyData.canLay0 (.list (ns.map PyData.int)) = true := layI ns
  have h2 := depI ns
  rw [h1]
  simp [PyData.depth]
  omega
theorem eqI : ∀ ns ms : List Int, PyData.eqvAll (ns.map PyData.int) (ms.map PyData.int) = decide (ns = ms)
  | [], [] => rfl
  | [], _ :: _ => rfl
  | _ :: _, [] => rfl
  | n :: r, m :: t => by
    rw [List.map_cons, List.map_cons, PyData.eqvAll, eqI r t]
    by_cases e : n = m
    · subst e
      simp [PyData.eqv]
    · have : ¬ (n :: r = m :: t) := fun z => e (List.cons.inj z).1
      simp [PyData.eqv, e]
theorem eqL (ns ms : List Int) : PyData.eqv (.list (ns.map PyData.int)) (.list (ms.map PyData.int)) = decide (ns = ms) := eqI ns ms

end M02

set_option Elab.async false
set_option linter.all false
set_option maxRecDepth 100000
set_option maxHeartbeats 1000000
/-! texts as lists of codes; tokens, gaps, whole texts -/
namespace M02
open PySem PySem.Spec PyProof.Rows L2 GL
abbrev Cd := List Nat
abbrev cs (z : Str) : Cd := z.cps.toList
def S (l : Cd) : Str := ⟨l.toArray⟩
theorem cs_S (l : Cd) : cs (S l) = l := by simp [cs, S]
theorem str_ext {a b : Str} (h : cs a = cs b) : a = b := by
  obtain ⟨⟨x⟩⟩ := a
  obtain ⟨⟨y⟩⟩ := b
  have h : x = y := h
  rw [h]
theorem S_cs (z : Str) : S (cs z) = z := str_ext (cs_S _)
theorem S_inj {a b : Cd} (h : S a = S b) : a = b := by rw [← cs_S a, h, cs_S]
theorem len_cs (z : Str) : z.length = (cs z).length := by simp [cs, Str.length]
theorem len_S (l : Cd) : (S l).length = l.length := by rw [len_cs, cs_S]
theorem cs_app (a b : Str) : cs (a ++ b) = cs a ++ cs b := by
  show (a.cps ++ b.cps).toList = _
  simp [cs]
theorem S_app (a b : Cd) : S a ++ S b = S (a ++ b) := str_ext (by rw [cs_app, cs_S, cs_S, cs_S])
def lets : Cd := cs "abcdefghijklmnopqrstuvwxyz"
def digs : Cd := cs "0123456789"
def sgns : Cd := cs "{}[]():.,=+-*"
theorem lets_eq : lets = List.range' 97 26 := by decide +kernel
theorem digs_eq : digs = List.range' 48 10 := by decide +kernel
theorem sgns_eq : sgns = [123, 125, 91, 93, 40, 41, 58, 46, 44, 61, 43, 45, 42] := by decide +kernel
theorem mem_lets {c : Nat} : c ∈ lets ↔ 97 ≤ c ∧ c ≤ 122 := by
  rw [lets_eq, List.mem_range'_1]
  omega
theorem mem_digs {c : Nat} : c ∈ digs ↔ 48 ≤ c ∧ c ≤ 57 := by
  rw [digs_eq, List.mem_range'_1]
  omega
theorem mem_sgns {c : Nat} : c ∈ sgns ↔ c = 123 ∨ c = 125 ∨ c = 91 ∨ c = 93 ∨ c = 40 ∨ c = 41 ∨ c = 58 ∨ c = 46 ∨ c = 44 ∨ c = 61 ∨ c = 43 ∨ c = 45 ∨ c = 42 := by
  rw [sgns_eq]
  simp
/-- what may stand between quotes -/
def Inn (b : Cd) : Prop := b.length ≤ 60 ∧ ∀ c ∈ b, 32 ≤ c ∧ c ≤ 126 ∧ c ≠ 34 ∧ c ≠ 92
inductive Tok : Cd → Prop
  | word {t : Cd} : t ≠ [] → (∀ c ∈ t, c ∈ lets) → Tok t
  | num {t : Cd} : t ≠ [] → (∀ c ∈ t, c ∈ digs) → (t.head? = some 48 → t.length = 1) → Tok t
  | str {b : Cd} : Inn b → Tok (34 :: (b ++ [34]))
  | sign {c : Nat} : c ∈ sgns → Tok [c]
/-- two tokens stay two -/
def Parts (t r : Cd) : Prop := ∀ c d, r.head? = some c → t.getLast? = some d → (d ∈ lets → c ∉ lets) ∧ (d ∈ digs → c ∉ digs)
/-- the gap at the head of r has k signs -/
inductive Gp : Cd → Nat → Prop
  | stop {r : Cd} : (∀ c, r.head? = some c → c ≠ 32 ∧ c ≠ 10 ∧ c ≠ 35) → Gp r 0
  | gap {c : Nat} {r : Cd} {k : Nat} : c = 32 ∨ c = 10 → Gp r k → Gp (c :: r) (k + 1)
  | rem {b r : Cd} {k : Nat} : (∀ c ∈ b, c ≠ 10) → (r = [] ∨ r.head? = some 10) → Gp r k → Gp (35 :: (b ++ r)) (1 + b.length + k)
/-- a text from an index on, its tokens -/
inductive Lx : Nat → Cd → List (Nat × Cd) → Prop
  | nil {n : Nat} : Lx n [] []
  | gap {n c : Nat} {r : Cd} {ps : List (Nat × Cd)} : c = 32 ∨ c = 10 → Lx (n + 1) r ps → Lx n (c :: r) ps
  | rem {n : Nat} {b r : Cd} {ps : List (Nat × Cd)} : (∀ c ∈ b, c ≠ 10) → (r = [] ∨ r.head? = some 10) → Lx (n + 1 + b.length) r ps → Lx n (35 :: (b ++ r)) ps
  | tok {n : Nat} {t r : Cd} {ps : List (Nat × Cd)} : Tok t → Parts t r → Lx (n + t.length) r ps → Lx n (t ++ r) ((n, t) :: ps)
/-- T's tokens from the index n on, at which one begins (or T ends) -/
inductive Ts (T : Cd) : Nat → List (Nat × Cd) → Prop
  | done : Ts T T.length []
  | tok {n k : Nat} {t r : Cd} {ps : List (Nat × Cd)} : T.drop n = t ++ r → Tok t → Parts t r → Gp r k → Ts T (n + t.length + k) ps → Ts T n ((n, t) :: ps)
theorem Tok.ne {t : Cd} (h : Tok t) : t ≠ [] := by
  cases h with
  | word h => exact h
  | num h => exact h
  | str h => simp
  | sign h => simp
theorem Tok.head {t : Cd} (h : Tok t) : ∃ c r, t = c :: r ∧ c ≠ 32 ∧ c ≠ 10 ∧ c ≠ 35 := by
  cases h with
  | word h1 h2 =>
    cases t with
    | nil => exact absurd rfl h1
    | cons c r =>
      have := mem_lets.mp (h2 c List.mem_cons_self)
      exact ⟨c, r, rfl, by omega, by omega, by omega⟩
  | num h1 h2 =>
    cases t with
    | nil => exact absurd rfl h1
    | cons c r =>
      have := mem_digs.mp (h2 c List.mem_cons_self)
      exact ⟨c, r, rfl, by omega, by omega, by omega⟩
  | str h => exact ⟨34, _, rfl, by decide, by decide, by decide⟩
  | @sign c h =>
    have := mem_sgns.mp h
    exact ⟨c, [], rfl, by omega, by omega, by omega⟩
theorem drop_app {T a b : Cd} {n : Nat} (h : T.drop n = a ++ b) : T.drop (n + a.length) = b := by
  rw [← List.drop_drop, h, List.drop_left]
theorem lx_ts {T : Cd} : ∀ {n : Nat} {r : Cd} {ps : List (Nat × Cd)}, Lx n r ps → n ≤ T.length → T.drop n = r → ∃ k, Gp r k ∧ Ts T (n + k) ps := by
  intro n r ps h
  induction h with
  | nil =>
    intro hn e
    have : T.length ≤ _ := List.drop_eq_nil_iff.mp e
    refine ⟨0, .stop (fun c hc => by simp at hc), ?_⟩
    rename_i n
    have e2 : n = T.length := by omega
    rw [e2]
    exact .done
  | @gap n c r ps hc h ih =>
    intro hn e
    have e2 : T.drop (n + 1) = r := by
      have := drop_app (a := [c]) (b := r) (T := T) (n := n) e
      exact this
    have hn2 : n + 1 ≤ T.length := by
      have := congrArg List.length e
      simp at this
      omega
    obtain ⟨k, g, t⟩ := ih hn2 e2
    exact ⟨k + 1, .gap hc g, by rw [show n + (k + 1) = n + 1 + k by omega]; exact t⟩
  | @rem n b r ps hb hr h ih =>
    intro hn e
    have e2 : T.drop (n + 1 + b.length) = r := by
      have := drop_app (a := 35 :: b) (b := r) (T := T) (n := n) e
      rw [show n + 1 + b.length = n + (35 :: b).length by simp; omega]
      exact this
    have hn2 : n + 1 + b.length ≤ T.length := by
      have := congrArg List.length e
      simp at this
      omega
    obtain ⟨k, g, t⟩ := ih hn2 e2
    exact ⟨1 + b.length + k, .rem hb hr g, by rw [show n + (1 + b.length + k) = n + 1 + b.length + k by omega]; exact t⟩
  | @tok n t r ps ht hp h ih =>
    intro hn e
    have hn2 : n + t.length ≤ T.length := by
      have := congrArg List.length e
      simp at this
      omega
    obtain ⟨k, g, ts⟩ := ih hn2 (drop_app e)
    refine ⟨0, .stop fun c hc => ?_, .tok e ht hp g ts⟩
    obtain ⟨d, q, rfl, h1⟩ := ht.head
    have : d = c := by simpa using hc
    exact this ▸ h1
/-- where the i-th token begins, or the text ends -/
def pos (T : Cd) (ps : List (Nat × Cd)) (i : Nat) : Nat := (ps[i]?.map (·.1)).getD T.length
theorem ts_pos {T : Cd} {n : Nat} {ps : List (Nat × Cd)} (h : Ts T n ps) : pos T ps 0 = n := by
  cases h <;> rfl
theorem ts_at {T : Cd} : ∀ {n : Nat} {ps : List (Nat × Cd)}, Ts T n ps → ∀ (i m : Nat) (t : Cd), ps[i]? = some (m, t) → ∃ r k, T.drop m = t ++ r ∧ Tok t ∧ Parts t r ∧ Gp r k ∧ pos T ps (i + 1) = m + t.length + k ∧ m + t.length ≤ T.length := by
  intro n ps h
  induction h with
  | done => intro i m t hi; simp at hi
  | @tok n k t r ps e ht hp g ts ih =>
    intro i m u hi
    cases i with
    | zero =>
      have hi : (n, t) = (m, u) := by simpa using hi
      cases hi
      refine ⟨r, k, e, ht, hp, g, ?_, ?_⟩
      · have := ts_pos ts
        unfold pos at this ⊢
        rw [List.getElem?_cons_succ]
        exact this
      · have e1 := congrArg List.length e
        simp at e1
        have : 0 < t.length := List.length_pos_iff.mpr ht.ne
        omega
    | succ i =>
      rw [List.getElem?_cons_succ] at hi
      obtain ⟨r', k', h1, h2, h3, h4, h5, h6⟩ := ih i m u hi
      refine ⟨r', k', h1, h2, h3, h4, ?_, h6⟩
      unfold pos at h5 ⊢
      rw [List.getElem?_cons_succ]
      exact h5
theorem ts_le {T : Cd} {n : Nat} {ps : List (Nat × Cd)} (h : Ts T n ps) : n ≤ T.length := by
  cases h with
  | done => exact Nat.le_refl _
  | tok e ht hp g ts =>
    have e1 := congrArg List.length e
    simp at e1
    have : 0 < _ := List.length_pos_iff.mpr ht.ne
    omega
theorem Gp.le {r : Cd} {k : Nat} (h : Gp r k) : k ≤ r.length := by
  induction h with
  | stop => exact Nat.zero_le _
  | gap _ _ ih => simp; exact ih
  | rem _ _ _ ih => simp; omega
end M02

set_option Elab.async false
set_option linter.all false
set_option maxRecDepth 100000
set_option maxHeartbeats 4000000
/-! the program's defs: is_string_part, run_end, token_end, behind_gap -/
namespace M02
open PySem PySem.Spec PyProof.Rows L2 GL
structure DnO (P : Program) (w : World) (K : PySem.W.Frag) (mg : Str → Option Value) (base : Heap) (x : Str) (k : Nat) (ps : List Str) (sp : Sp) where
  f : Addr
  fd : FuncData
  ok : FnOk P w K mg base CX0 k f fd ps sp
  g : mg x = some (.ref f)
  kp : PySem.W.keepIn K (.ref f) = true
  b : Binds K fd ps []
def DnO.G {P : Program} {w : World} {K : PySem.W.Frag} {mg : Str → Option Value} {base : Heap} {x : Str} {k : Nat} {ps : List Str} {sp : Sp} (d : DnO P w K mg base x k ps sp) : DnG P w K mg base x k ps sp := ⟨d.f, d.fd, .of d.ok, d.g, d.kp, d.b⟩
theorem scIP : FnScope ["text", "sign"] ["text"] (defScope sPart) := ⟨rfl, rfl, rfl, by decide +kernel, rfl, by decide +kernel, by decide +kernel⟩
theorem scRE : FnScope ["text", "start", "signs", "end"] ["text", "start", "signs"] (defScope sRun) := ⟨rfl, rfl, rfl, by decide +kernel, rfl, by decide +kernel, by decide +kernel⟩
theorem scTE : FnScope ["text", "start", "first", "end", "close"] ["text", "start"] (defScope sTokEnd) := ⟨rfl, rfl, rfl, by decide +kernel, rfl, by decide +kernel, by decide +kernel⟩
theorem scGA : FnScope ["text", "start", "at", "feed"] ["text", "start"] (defScope sGap) := ⟨rfl, rfl, rfl, by decide +kernel, rfl, by decide +kernel, by decide +kernel⟩
theorem big_le {n : Nat} (h : n ≤ 1000000) : n ≤ sizeLine := Nat.le_trans h (by decide)
theorem same_new {H : Hp} {p : Addr} {o : HO} (h : H p = none) : Same H (upd H p o) := fun b x e => by
  rw [upd_ne (ne_of_none e h)]
  exact e
theorem same_put {H H' : Hp} {p : Addr} {o : HO} (x : Same H H') (h : H p = none) : Same H (upd H' p o) := fun b y e => by
  rw [upd_ne (ne_of_none e h)]
  exact x b y e
theorem inS (z : Str) : ∀ l : List Str, inV (.str z) (l.map V.str) = decide (z ∈ l)
  | [] => rfl
  | y :: r => by
    have ih := inS z r
    unfold inV at ih ⊢
    rw [List.map_cons, List.any_cons, ih]
    show (y == z || decide (z ∈ r)) = _
    by_cases e : y = z
    · subst e
      simp
    · have e' : z ≠ y := fun q => e q.symm
      simp [e, e']
/-- one sign -/
abbrev ch (c : Nat) : Str := ⟨#[c]⟩
theorem ch_inj {c d : Nat} (h : ch c = ch d) : c = d := by
  have : cs (ch c) = cs (ch d) := by rw [h]
  simpa [cs] using this
theorem ch_S (c : Nat) : ch c = S [c] := rfl
/-- find of one sign -/
theorem find_at {T b r : Cd} {n c : Nat} (hn : n ≤ T.length) (e : T.drop n = b ++ r) (hb : c ∉ b) : (r.head? = some c → Txt.find3 (S T) (ch c) (n : Int) = ((n + b.length : Nat) : Int)) ∧ (r = [] → Txt.find3 (S T) (ch c) (n : Int) = -1) := by
  have fi : PySem.fromIndex (S T).length (n : Int) = n := by
    unfold PySem.fromIndex
    rw [if_neg (by omega)]
    simp
  have gd : ∀ v, (S T).cps.getD v 0 = T.getD v 0 := fun v => by simp [S]
  have at1 : ∀ v, v < b.length → T.getD (n + v) 0 ∈ b := fun v hv => by
    have : T[n + v]? = (b ++ r)[v]? := by rw [← e, List.getElem?_drop]
    rw [List.getElem?_append_left hv, List.getElem?_eq_getElem hv] at this
    rw [List.getD_eq_getElem?_getD, this]
    exact List.getElem_mem hv
  have lT : (S T).length = T.length := len_S T
  have le := congrArg List.length e
  simp at le
  refine ⟨fun hr => ?_, fun hr => ?_⟩
  · have hc : T.getD (n + b.length) 0 = c := by
      have : T[n + b.length]? = (b ++ r)[b.length]? := by rw [← e, List.getElem?_drop]
      rw [List.getElem?_append_right (Nat.le_refl _), Nat.sub_self, ← List.head?_eq_getElem?, hr] at this
      rw [List.getD_eq_getElem?_getD, this]
      rfl
    have rl : 0 < r.length := by
      cases r with
      | nil => simp at hr
      | cons => simp
    rcases PySem.StrLaws.find3_spec (S T) c (n : Int) with ⟨_, hno⟩ | ⟨k, hk, h1, h2, h3, h4⟩
    · have := hno (n + b.length) (by rw [fi]; omega) (by rw [lT]; omega)
      rw [gd, hc] at this
      exact absurd rfl this
    · rw [hk]
      rw [fi] at h1 h4
      rw [gd] at h3
      rcases Nat.lt_trichotomy k (n + b.length) with z | z | z
      · have := at1 (k - n) (by omega)
        rw [show n + (k - n) = k by omega, h3] at this
        exact absurd this hb
      · rw [z]
      · have := h4 (n + b.length) (by omega) z
        rw [gd, hc] at this
        exact absurd rfl this
  · subst hr
    rcases PySem.StrLaws.find3_spec (S T) c (n : Int) with ⟨h, _⟩ | ⟨k, hk, h1, h2, h3, h4⟩
    · exact h
    · rw [fi] at h1
      rw [gd] at h3
      rw [lT] at h2
      have lr : T.length - n = b.length := by simpa using le
      have := at1 (k - n) (by omega)
      rw [show n + (k - n) = k by omega, h3] at this
      exact absurd this hb
theorem atS {T : Cd} {i c : Nat} (h : T[i]? = some c) : atI (S T).cps.toList (i : Int) = some c := atI_nat (by show (cs (S T))[i]? = some c; rw [cs_S]; exact h)
/-- a slice -/
theorem cut_S {T : Cd} {i j : Nat} (h : i ≤ j) (hj : j ≤ T.length) : cutS (S T) (some (i : Int)) (some (j : Int)) = S ((T.drop i).take (j - i)) := by
  have e : (S T).length = T.length := len_S T
  unfold cutS
  have h1 : HT.sIx (S T).length 0 (some (i : Int)) = i := by rw [HT.sIx_nat, e]; exact Nat.min_eq_left (Nat.le_trans h hj)
  have h2 : HT.sIx (S T).length (S T).length (some (j : Int)) = j := by rw [HT.sIx_nat, e]; exact Nat.min_eq_left hj
  rw [h1, h2]
  simp [S]
section
variable {P : Program} {w : World} {K : PySem.W.Frag} {mg : Str → Option Value} {base : Heap}
def spPart : Sp := fun vs H Q _ => ∃ b : Cd, vs = [.str (S b)] ∧ Inn b ∧ ∀ H', Same H H' → Q (.bl true) H'
theorem ok_part {f : Addr} {fd : FuncData} (F : Fun K "is_string_part" "is_string_part" sPart f fd) (T : Bl K mg) : FnOk P w K mg base CX0 1 f fd ["text"] spPart := by
  refine F.ok scIP (fun vs H Q E h => ?_) (fun cdv A outer s H vs Q E hr h => ?_)
  · obtain ⟨v, rfl, _⟩ := h
    rfl
  · obtain ⟨b, rfl, hz, q⟩ := h
    refine ⟨_, (pss_cons (ps_if (pt_cmpR op_gt (pe_callB call_len_str (by rfl) T.len (by decide +kernel) (pa_cons (pv 0) pa_nil)) (pe_glob (v := .int 60) (by rfl) T.cmostinstring.choose_spec ⟨_, rfl⟩) (nomark _))
        (pss_one (ps_ret pe_bl))
        pss_nil)
      (pss_one (ps_ret (pe_callB (cr_all rfl) (by rfl) T.all (by decide +kernel) (pa_cons (pe_lc (own := [("sign", 1)]) (g := gName 1) (by rfl) scIP.nd (pi_str (pv 0)) (blkOk_by (own := [("sign", 1)]) (N := ["text", "sign"]) (sc := defScope sPart) (by decide +kernel)) (fun _ _ _ _ _ => (pg_name (i := 1) scIP.nd rfl (Or.inl rfl))) (fun _ _ _ _ _ => pts_nil) (fun _ _ _ _ _ => (pe_and (pe_chain op_le op_le (pe_glob (v := .int 32) (by rfl) T.cleastcode.choose_spec ⟨_, rfl⟩) (pe_callB call_ord (by rfl) T.ord (by decide +kernel) (pa_cons (pv 1) pa_nil)) (pe_glob (v := .int 126) (by rfl) T.cmostcode.choose_spec ⟨_, rfl⟩)) (pe_one (pe_cmpR (r := rIn K true) op_notIn_seq (pv 1) (pe_tup (pa_cons (pe_glob (v := .str "\"") (by rfl) T.cquote.choose_spec ⟨_, rfl⟩) (pa_cons (pe_glob (v := .str "\\") (by rfl) T.cbackslash.choose_spec ⟨_, rfl⟩) pa_nil))) (by rfl)))))) pa_nil))))), ?_⟩
    have hl : (S b).length ≤ 60 := by rw [len_S]; exact hz.1
    refine ⟨.str (S b), rfl, S b, rfl, big_le (by omega), _, 60, rfl, rfl, _, rfl, ?_⟩
    have e0 : decide (((S b).length : Int) > 60) = false := decide_eq_false (by omega)
    rw [e0]
    refine iteF ?_
    refine ⟨.str (S b), rfl, S b, rfl, fun D nD => ?_⟩
    refine lc_it (walk_str (z := S b)) (fun i H2 => Same H H2 ∧ H2 D = some (.lst ((List.replicate i true).map V.bl))) ⟨same_new nD, upd_same⟩ (fun _ _ _ _ => trivial) (fun i x H2 H3 hi hP hY => ?_) (fun H2 hP => ?_)
    · obtain ⟨sm, hD⟩ := hP
      obtain ⟨rfl, c, hc, rfl⟩ := hY
      have hm : c ∈ b := by
        have : (cs (S b))[i]? = some c := by rw [Array.getElem?_toList]; exact hc
        rw [cs_S] at this
        exact List.mem_of_getElem? this
      obtain ⟨c1, c2, c3, c4⟩ := hz.2 c hm
      have hi' : i < (S b).length := hi
      refine ⟨rfl, .str (ch c), rfl, ch c, rfl, rfl, 32, (c : Int), rfl, rfl, _, rfl, ?_⟩
      rw [decide_eq_true (show (32 : Int) ≤ (c : Int) by omega)]
      refine iteT ?_
      refine ⟨(c : Int), 126, rfl, rfl, _, rfl, ?_⟩
      rw [decide_eq_true (show (c : Int) ≤ 126 by omega)]
      refine iteT ?_
      refine ⟨.str (ch c), rfl, by show 2 ≤ sizeLine; decide, fun p np => ?_⟩
      refine ⟨p, _, rfl, .inr (SqT.of upd_same), rfl, rfl, ?_⟩
      have e1 : (!inV (.str (ch c)) ([("\"" : Str), "\\"].map V.str)) = true := by
        rw [inS]
        have : ch c ∉ [ch 34, ch 92] := fun hm => by
          rcases List.mem_cons.mp hm with e | hm
          · exact c3 (ch_inj e)
          · exact c4 (ch_inj (List.mem_singleton.mp hm))
        have : ch c ∉ [("\"" : Str), "\\"] := this
        simp [this]
      have sp := same_put sm (p := p) (o := .tup [.str "\"", .str "\\"]) (sm.free np)
      have nep : D ≠ p := ne_of_none hD np
      refine ⟨_, by rw [upd_ne nep]; exact hD, ?_, same_put sp nD, ?_⟩
      · simp
        exact Nat.lt_of_lt_of_le (by omega : i < 100) (by decide)
      · have e1 : (!inV (.str (ch c)) [.str "\"", .str "\\"]) = true := e1
        rw [upd_same, e1, List.replicate_succ', List.map_append]
        rfl
    · obtain ⟨sm, hD⟩ := hP
      refine ⟨D, _, rfl, SqL.of hD, ?_⟩
      have e5 : ∀ n, (List.replicate n true).all id = true := fun n => by simp
      rw [e5]
      exact q H2 sm

def spRun : Sp := fun vs H Q _ => ∃ (T u r sg : Cd) (n : Nat), vs = [.str (S T), .int n, .str (S sg)] ∧ T.length ≤ 1000000 ∧ n ≤ T.length ∧ T.drop n = u ++ r ∧ (∀ c ∈ u, c ∈ sg) ∧ (∀ c, r.head? = some c → c ∉ sg) ∧ Q (.int ((n + u.length : Nat) : Int)) H
theorem ok_run {f : Addr} {fd : FuncData} (F : Fun K "run_end" "run_end" sRun f fd) (T : Bl K mg) : FnOk P w K mg base CX0 1 f fd ["text", "start", "signs"] spRun := by
  refine F.ok scRE (fun vs H Q E h => ?_) (fun cdv A outer s H vs Q E hr h => ?_)
  · obtain ⟨_, _, _, _, _, rfl, _⟩ := h
    rfl
  · obtain ⟨T', u, r, sg, n, rfl, hT, hn, e, hu, hr2, q⟩ := h
    refine ⟨_, (pss_cons (ps_set (i := 3) scRE.nd rfl (Or.inl rfl) (pv 1))
      (pss_cons (ps_while PassesOwn.never (PW.pt (pw_and (pt_cmpR op_lt (pv 3) (pe_callB call_len_str (by rfl) T.len (by decide +kernel) (pa_cons (pv 0) pa_nil)) (nomark _)) (pw_and1 (pt_cmpR op_in_sign (pe_ix ix_str (pv 0) (pv 3) (fun _ _ => rfl)) (pv 2) (by rfl)))))
        (pss_one (ps_aug (i := 3) scRE.nd rfl (Or.inl rfl) pe_int ip_add)))
      (pss_one (ps_ret (pv 3))))), ?_⟩
    refine ⟨.int n, rfl, ?_⟩
    have lT : (S T').length = T'.length := len_S T'
    refine ⟨fun k σ H2 => ∃ j : Nat, H2 = H ∧ k = u.length - j ∧ j ≤ u.length ∧ σ = [some (.str (S T')), some (.int n), some (.str (S sg)), some (.int ((n + j : Nat) : Int))], ⟨u.length, 0, rfl, rfl, Nat.zero_le _, rfl⟩, fun k σ H2 h => ?_⟩
    obtain ⟨j, rfl, rfl, hj, rfl⟩ := h
    have le := congrArg List.length e
    simp at le
    have at_ : T'[n + j]? = (u ++ r)[j]? := by rw [← e, List.getElem?_drop]
    refine ⟨.int ((n + j : Nat) : Int), rfl, .str (S T'), rfl, S T', rfl, by rw [lT]; exact big_le hT, _, _, rfl, rfl, _, rfl, ite2 (fun g => ?_) (fun g => ?_)⟩
    · have g : ((n + j : Nat) : Int) < ((S T').length : Int) := of_decide_eq_true g
      rw [lT] at g
      have hlt : n + j < T'.length := by omega
      obtain ⟨c, hc⟩ : ∃ c, T'[n + j]? = some c := ⟨_, List.getElem?_eq_getElem hlt⟩
      refine ⟨.str (S T'), rfl, .int ((n + j : Nat) : Int), rfl, S T', _, c, rfl, rfl, by rw [lT]; exact big_le hT, atS hc, .str (S sg), rfl, c, S sg, rfl, rfl, _, rfl, ?_⟩
      rw [show (S sg).cps.toList = sg from cs_S sg]
      by_cases hju : j < u.length
      · have hcu : c ∈ u := by
          rw [hc, List.getElem?_append_left hju] at at_
          exact List.mem_of_getElem? at_.symm
        rw [decide_eq_true (hu c hcu)]
        refine iteT ⟨fun σ' H' => H' = H2 ∧ σ' = [some (.str (S T')), some (.int n), some (.str (S sg)), some (.int ((n + (j + 1) : Nat) : Int))], fun σ' H' h => ⟨u.length - (j + 1), by omega, j + 1, h.1, rfl, by omega, h.2⟩, ?_⟩
        refine ⟨_, rfl, ((n + j : Nat) : Int), 1, rfl, rfl, rfl, ?_⟩
        rw [show ((n + (j + 1) : Nat) : Int) = ((n + j : Nat) : Int) + 1 by omega]
        rfl
      · have ej : j = u.length := by omega
        subst ej
        rw [hc, List.getElem?_append_right (Nat.le_refl _), Nat.sub_self, ← List.head?_eq_getElem?] at at_
        rw [decide_eq_false (hr2 c at_.symm)]
        refine iteF ?_
        exact ⟨_, rfl, q⟩
    · have g : ¬ ((n + j : Nat) : Int) < ((S T').length : Int) := fun z => by
        rw [decide_eq_true z] at g
        exact absurd g (by decide)
      rw [lT] at g
      have ej : j = u.length := by omega
      subst ej
      exact ⟨_, rfl, q⟩
end
end M02

set_option Elab.async false
set_option linter.all false
set_option maxRecDepth 100000
set_option maxHeartbeats 4000000
/-! token_end, behind_gap -/
namespace M02
open PySem PySem.Spec PyProof.Rows L2 GL
theorem Parts.lets {t r : Cd} (h : Parts t r) (hn : t ≠ []) (ht : ∀ c ∈ t, c ∈ lets) : ∀ c, r.head? = some c → c ∉ lets := fun c hc => by
  obtain ⟨d, hd⟩ : ∃ d, t.getLast? = some d := ⟨t.getLast hn, List.getLast?_eq_some_getLast hn⟩
  exact (h c d hc hd).1 (ht d (List.mem_of_getLast? hd))
theorem Parts.digs {t r : Cd} (h : Parts t r) (hn : t ≠ []) (ht : ∀ c ∈ t, c ∈ digs) : ∀ c, r.head? = some c → c ∉ digs := fun c hc => by
  obtain ⟨d, hd⟩ : ∃ d, t.getLast? = some d := ⟨t.getLast hn, List.getLast?_eq_some_getLast hn⟩
  exact (h c d hc hd).2 (ht d (List.mem_of_getLast? hd))
theorem drop_get {T t : Cd} {n c : Nat} (e : T.drop n = c :: t) : T[n]? = some c := by
  have : T[n + 0]? = (c :: t)[0]? := by rw [← e, List.getElem?_drop]
  simpa using this
theorem drop_lt {T t : Cd} {n c : Nat} (e : T.drop n = c :: t) : n < T.length := (List.getElem?_eq_some_iff.mp (drop_get e)).1
section
variable {P : Program} {w : World} {K : PySem.W.Frag} {mg : Str → Option Value} {base : Heap}
def spTE : Sp := fun vs H Q _ => ∃ (T t r : Cd) (n : Nat), vs = [.str (S T), .int n] ∧ T.length ≤ 1000000 ∧ T.drop n = t ++ r ∧ Tok t ∧ Parts t r ∧ ∀ H', Same H H' → Q (.int ((n + t.length : Nat) : Int)) H'
theorem ok_te {f : Addr} {fd : FuncData} (F : Fun K "token_end" "token_end" sTokEnd f fd) (T : Bl K mg) (d_run_end : DnO P w K mg base "run_end" 1 ["text", "start", "signs"] spRun) (d_is_string_part : DnO P w K mg base "is_string_part" 1 ["text"] spPart) : FnOk P w K mg base CX0 2 f fd ["text", "start"] spTE := by
  refine F.ok scTE (fun vs H Q E h => ?_) (fun cdv A outer s H vs Q E hr h => ?_)
  · obtain ⟨_, _, _, _, rfl, _⟩ := h
    rfl
  · obtain ⟨T', t, r, n, rfl, hT, e, ht, hp, q⟩ := h
    refine ⟨_, (pss_cons (ps_set (i := 2) scTE.nd rfl (Or.inl rfl) (pe_ix ix_str (pv 0) (pv 1) (fun _ _ => rfl)))
      (pss_cons (ps_if (pt_cmpR op_in_sign (pv 2) (pe_glob (v := .str "abcdefghijklmnopqrstuvwxyz") (by rfl) T.cletters.choose_spec ⟨_, rfl⟩) (by rfl))
        (pss_one (ps_ret (pe_call d_run_end.ok (hr.mono (by omega)) (by rfl) d_run_end.g d_run_end.kp d_run_end.b .nil pass0 (pa_cons (pv 0) (pa_cons (pv 1) (pa_cons (pe_glob (v := .str "abcdefghijklmnopqrstuvwxyz") (by rfl) T.cletters.choose_spec ⟨_, rfl⟩) pa_nil))))))
        pss_nil)
      (pss_cons (ps_if (pt_cmpR op_in_sign (pv 2) (pe_glob (v := .str "0123456789") (by rfl) T.cdigits.choose_spec ⟨_, rfl⟩) (by rfl))
        (pss_cons (ps_set (i := 3) scTE.nd rfl (Or.inl rfl) (pe_call d_run_end.ok (hr.mono (by omega)) (by rfl) d_run_end.g d_run_end.kp d_run_end.b .nil pass0 (pa_cons (pv 0) (pa_cons (pv 1) (pa_cons (pe_glob (v := .str "0123456789") (by rfl) T.cdigits.choose_spec ⟨_, rfl⟩) pa_nil)))))
        (pss_one (ps_ret (pe_ifExp (PW.pt (pw_or (pt_cmpR op_ne (pv 2) (pe_ix ix_str (pe_glob (v := .str "0123456789") (by rfl) T.cdigits.choose_spec ⟨_, rfl⟩) pe_int (fun _ _ => rfl)) (nomark _)) (pw_or1 (pt_cmpR op_eq (pv 3) (pe_op op_add (pv 1) pe_int) (nomark _))))) (pv 3) pe_non))))
        pss_nil)
      (pss_cons (ps_if (pt_cmpR op_eq (pv 2) (pe_glob (v := .str "\"") (by rfl) T.cquote.choose_spec ⟨_, rfl⟩) (nomark _))
        (pss_cons (ps_set (i := 4) scTE.nd rfl (Or.inl rfl) (pe_bm PySem.F.plainAttrs_str PySem.F.slot_str_find PySem.F.type_str_find mt_find3 (pv 0) (pa_cons (pe_glob (v := .str "\"") (by rfl) T.cquote.choose_spec ⟨_, rfl⟩) (pa_cons (pe_op op_add (pv 1) pe_int) pa_nil))))
        (pss_one (ps_ret (pe_ifExp (PW.pt (pw_and (pt_cmpR op_ge (pv 4) pe_int (nomark _)) (pw_and1 (pt_val (pe_call d_is_string_part.ok (hr.mono (by omega)) (by rfl) d_is_string_part.g d_is_string_part.kp d_is_string_part.b .nil pass0 (pa_cons (pe_slice sl_str (pv 0) (po_some (pe_op op_add (pv 1) pe_int)) (po_some (pv 4))) pa_nil)))))) (pe_op op_add (pv 4) pe_int) pe_non))))
        pss_nil)
      (pss_one (ps_ret (pe_ifExp (pt_cmpR op_in_sign (pv 2) (pe_glob (v := .str "{}[]():.,=+-*") (by rfl) T.csigns.choose_spec ⟨_, rfl⟩) (by rfl)) (pe_op op_add (pv 1) pe_int) pe_non))))))), ?_⟩
    have lT : (S T').length = T'.length := len_S T'
    obtain ⟨c, t', rfl, _⟩ := ht.head
    have hc : T'[n]? = some c := drop_get e
    have hlt : n < T'.length := drop_lt e
    have szT : (S T').length ≤ sizeLine := by rw [lT]; exact big_le hT
    refine ⟨.str (S T'), rfl, .int n, rfl, S T', n, c, rfl, rfl, szT, atS hc, ?_⟩
    refine ⟨.str (ch c), rfl, c, _, rfl, rfl, _, rfl, ?_⟩
    rw [show (Str.cps "abcdefghijklmnopqrstuvwxyz").toList = lets from rfl]
    cases ht with
    | word h1 h2 =>
      rw [decide_eq_true (h2 c List.mem_cons_self)]
      refine iteT ?_
      exact ⟨.str (S T'), rfl, .int n, rfl, T', c :: t', r, lets, n, rfl, hT, by omega, e, h2, hp.lets h1 h2, q H (fun _ _ h => h)⟩
    | num h1 h2 h3 =>
      have hd := h2 c List.mem_cons_self
      have hd' := mem_digs.mp hd
      rw [decide_eq_false (fun z => by have := mem_lets.mp z; omega)]
      refine iteF ⟨.str (ch c), rfl, c, _, rfl, rfl, _, rfl, ?_⟩
      rw [show (Str.cps "0123456789").toList = digs from rfl, decide_eq_true hd]
      refine iteT ?_
      refine ⟨.str (S T'), rfl, .int n, rfl, T', c :: t', r, digs, n, rfl, hT, by omega, e, h2, hp.digs h1 h2, ?_⟩
      refine ⟨.str (ch c), rfl, _, 0, 48, rfl, rfl, by decide, by decide +kernel, rfl, _, rfl, ite2 (fun g => ?_) (fun g => ?_)⟩
      · exact iteT ⟨_, rfl, q H (fun _ _ h => h)⟩
      · have g : ch c = ch 48 := by
          have : V.str (ch c) = V.str (ch 48) := by simpa using g
          injection this
        have hc48 := ch_inj g
        have hl := h3 (by rw [hc48]; rfl)
        refine ⟨_, rfl, .int n, rfl, _, _, rfl, rfl, rfl, _, rfl, ?_⟩
        have e1 : decide (V.int ((n + (c :: t').length : Nat) : Int) = V.int ((n : Int) + 1)) = true := decide_eq_true (by rw [hl]; rfl)
        rw [e1]
        exact iteT ⟨_, rfl, q H (fun _ _ h => h)⟩
    | @str b hb =>
      rw [decide_eq_false (fun z => by have := mem_lets.mp z; omega)]
      refine iteF ⟨.str (ch 34), rfl, 34, _, rfl, rfl, _, rfl, ?_⟩
      rw [show (Str.cps "0123456789").toList = digs from rfl, decide_eq_false (fun z => by have := mem_digs.mp z; omega)]
      refine iteF ⟨.str (ch 34), rfl, rfl, _, rfl, ?_⟩
      rw [show decide (V.str (ch 34) = V.str "\"") = true by decide +kernel]
      have e1 : T'.drop (n + 1) = b ++ (34 :: r) := by
        have := drop_app (a := [34]) (b := b ++ [34] ++ r) (T := T') (n := n) e
        rw [List.append_assoc] at this
        exact this
      have le1 := congrArg List.length e1
      simp at le1
      have e2 := (find_at (c := 34) (by omega) e1 (fun z => (hb.2 34 z).2.2.1 rfl)).1 rfl
      refine iteT ?_
      refine ⟨.str (S T'), rfl, rfl, .int n, rfl, _, _, rfl, rfl, S T', _, _, rfl, rfl, ?_⟩
      rw [show ((n : Int) + 1) = ((n + 1 : Nat) : Int) by omega]
      rw [show ("\"" : Str) = ch 34 from rfl, e2]
      refine ⟨_, rfl, _, 0, rfl, rfl, _, rfl, ?_⟩
      rw [decide_eq_true (show (0 : Int) ≤ ((n + 1 + b.length : Nat) : Int) by omega)]
      refine iteT ?_
      refine ⟨.str (S T'), rfl, .int n, rfl, _, _, rfl, rfl, _, rfl, _, rfl, _, rfl, S T', rfl, szT, ?_⟩
      rw [show ((n : Int) + 1) = ((n + 1 : Nat) : Int) by omega, cut_S (by omega) (by omega)]
      have e3 : (T'.drop (n + 1)).take (n + 1 + b.length - (n + 1)) = b := by
        rw [e1, show n + 1 + b.length - (n + 1) = b.length by omega, List.take_left]
      rw [e3]
      refine ⟨b, rfl, hb, fun H' sm => ⟨true, rfl, iteT ?_⟩⟩
      refine ⟨_, rfl, _, _, rfl, rfl, ?_⟩
      have := q H' sm
      rw [show ((n + (34 :: (b ++ [34])).length : Nat) : Int) = ((n + 1 + b.length : Nat) : Int) + 1 by simp; omega] at this
      exact this
    | sign h1 =>
      have hs := mem_sgns.mp h1
      rw [decide_eq_false (fun z => by have := mem_lets.mp z; omega)]
      refine iteF ⟨.str (ch c), rfl, c, _, rfl, rfl, _, rfl, ?_⟩
      rw [show (Str.cps "0123456789").toList = digs from rfl, decide_eq_false (fun z => by have := mem_digs.mp z; omega)]
      refine iteF ⟨.str (ch c), rfl, rfl, _, rfl, ?_⟩
      have e4 : decide (V.str (ch c) = V.str "\"") = false := decide_eq_false fun z => by
        have z : ch c = ch 34 := by injection z
        have := ch_inj z
        omega
      rw [e4]
      refine iteF ⟨.str (ch c), rfl, c, _, rfl, rfl, _, rfl, ?_⟩
      rw [show (Str.cps "{}[]():.,=+-*").toList = sgns from rfl, decide_eq_true h1]
      refine iteT ⟨.int n, rfl, _, _, rfl, rfl, ?_⟩
      exact q H (fun _ _ h => h)

def spGap : Sp := fun vs H Q _ => ∃ (T : Cd) (n k : Nat), vs = [.str (S T), .int n] ∧ T.length ≤ 1000000 ∧ n ≤ T.length ∧ Gp (T.drop n) k ∧ Q (.int ((n + k : Nat) : Int)) H
theorem ok_gap {f : Addr} {fd : FuncData} (F : Fun K "behind_gap" "behind_gap" sGap f fd) (T : Bl K mg) : FnOk P w K mg base CX0 1 f fd ["text", "start"] spGap := by
  refine F.ok scGA (fun vs H Q E h => ?_) (fun cdv A outer s H vs Q E hr h => ?_)
  · obtain ⟨_, _, _, rfl, _⟩ := h
    rfl
  · obtain ⟨T', n, k, rfl, hT, hn, hg, q⟩ := h
    refine ⟨_, (pss_cons (ps_set (i := 2) scGA.nd rfl (Or.inl rfl) (pv 1))
      (pss_cons (ps_while PassesOwn.never (PW.pt (pw_and (pt_cmpR op_lt (pv 2) (pe_callB call_len_str (by rfl) T.len (by decide +kernel) (pa_cons (pv 0) pa_nil)) (nomark _)) (pw_and1 (PW.pt (pw_or (pt_cmpR (r := rIn K false) op_in_seq (pe_ix ix_str (pv 0) (pv 2) (fun _ _ => rfl)) (pe_glob (v := .ref T.cgaps.choose) (by rfl) T.cgaps.choose_spec.1 rfl) (by rfl)) (pw_or1 (pt_cmpR op_eq (pe_ix ix_str (pv 0) (pv 2) (fun _ _ => rfl)) (pe_glob (v := .str "#") (by rfl) T.cremark.choose_spec ⟨_, rfl⟩) (nomark _))))))))
        (pss_one (ps_if (pt_cmpR op_eq (pe_ix ix_str (pv 0) (pv 2) (fun _ _ => rfl)) (pe_glob (v := .str "#") (by rfl) T.cremark.choose_spec ⟨_, rfl⟩) (nomark _))
          (pss_cons (ps_set (i := 3) scGA.nd rfl (Or.inl rfl) (pe_bm PySem.F.plainAttrs_str PySem.F.slot_str_find PySem.F.type_str_find mt_find3 (pv 0) (pa_cons (pe_glob (v := .str "\n") (by rfl) T.cfeed.choose_spec ⟨_, rfl⟩) (pa_cons (pv 2) pa_nil))))
          (pss_one (ps_set (i := 2) scGA.nd rfl (Or.inl rfl) (pe_ifExp (pt_cmpR op_ge (pv 3) pe_int (nomark _)) (pv 3) (pe_callB call_len_str (by rfl) T.len (by decide +kernel) (pa_cons (pv 0) pa_nil))))))
          (pss_one (ps_aug (i := 2) scGA.nd rfl (Or.inl rfl) pe_int ip_add)))))
      (pss_one (ps_ret (pv 2))))), ?_⟩
    have lT : (S T').length = T'.length := len_S T'
    have szT : (S T').length ≤ sizeLine := by rw [lT]; exact big_le hT
    refine ⟨.int n, rfl, ?_⟩
    refine ⟨fun m σ H2 => ∃ (j : Nat) (fv : Option V), H2 = H ∧ n + k = j + m ∧ Gp (T'.drop j) m ∧ j ≤ T'.length ∧ σ = [some (.str (S T')), some (.int n), some (.int j), fv], ⟨k, n, none, rfl, rfl, hg, hn, rfl⟩, fun m σ H2 h => ?_⟩
    obtain ⟨j, fv, rfl, hj, hgj, hjT, rfl⟩ := h
    refine ⟨.int j, rfl, .str (S T'), rfl, S T', rfl, szT, _, _, rfl, rfl, _, rfl, ?_⟩
    rw [lT]
    have stop : m = 0 → Q (.int j) H2 := fun z => by
      subst z
      have : j = n + k := by omega
      rw [this]
      exact q
    by_cases hlt : j < T'.length
    · rw [decide_eq_true (show (j : Int) < (T'.length : Int) by omega)]
      refine iteT ?_
      obtain ⟨c, hc⟩ : ∃ c, T'[j]? = some c := ⟨_, List.getElem?_eq_getElem hlt⟩
      have hdr : T'.drop j = c :: T'.drop (j + 1) := by
        rw [List.drop_eq_getElem_cons hlt]
        rw [List.getElem?_eq_getElem hlt] at hc
        rw [Option.some.inj hc]
      refine ⟨.str (S T'), rfl, .int j, rfl, S T', j, c, rfl, rfl, szT, atS hc, ?_⟩
      refine ⟨T.cgaps.choose, _, rfl, .inr (T.cgaps.choose_spec.2 _), rfl, rfl, _, rfl, ?_⟩
      have e1 : inV (.str (ch c)) [.str " ", .str "\n"] = decide (c = 32 ∨ c = 10) := by
        have h1 := inS (ch c) [" ", "\n"]
        have h1 : inV (.str (ch c)) [.str " ", .str "\n"] = decide (ch c ∈ [ch 32, ch 10]) := h1
        rw [h1]
        refine decide_eq_decide.mpr ⟨fun z => ?_, fun z => ?_⟩
        · rcases List.mem_cons.mp z with z | z
          · exact .inl (ch_inj z)
          · exact .inr (ch_inj (List.mem_singleton.mp z))
        · rcases z with z | z <;> subst z <;> decide
      rw [show (if false = true then !inV (.str (ch c)) [.str " ", .str "\n"] else inV (.str (ch c)) [.str " ", .str "\n"]) = inV (.str (ch c)) [.str " ", .str "\n"] from rfl, e1]
      have e2 : decide (V.str (ch c) = V.str "#") = decide (c = 35) := decide_eq_decide.mpr ⟨fun z => by
          have z : ch c = ch 35 := by injection z
          exact ch_inj z, fun z => by rw [z]; rfl⟩
      have head : (c = 32 ∨ c = 10) ∨ c = 35 ∨ (c ≠ 32 ∧ c ≠ 10 ∧ c ≠ 35) := by omega
      rcases head with h0 | h0 | h0
      · -- a blank or a line feed
        rw [decide_eq_true h0]
        refine iteT (iteT ?_)
        obtain ⟨m', rfl, hg'⟩ : ∃ m', m = m' + 1 ∧ Gp (T'.drop (j + 1)) m' := by
          rw [hdr] at hgj
          generalize T'.drop (j + 1) = R at hgj
          cases hgj with
          | stop h =>
            have := h c rfl
            omega
          | gap _ g => exact ⟨_, rfl, g⟩
          | rem => omega
        refine ⟨fun σ' H' => H' = H2 ∧ σ' = [some (.str (S T')), some (.int n), some (.int ((j + 1 : Nat) : Int)), fv], fun σ' H' h => ⟨m', by omega, j + 1, fv, h.1, by omega, hg', by omega, h.2⟩, ?_⟩
        refine ⟨.str (S T'), rfl, .int j, rfl, S T', j, c, rfl, rfl, szT, atS hc, rfl, _, rfl, ?_⟩
        rw [e2, decide_eq_false (show ¬ c = 35 by omega)]
        refine iteF ?_
        exact ⟨_, rfl, _, 1, rfl, rfl, rfl, rfl⟩
      · -- a remark
        subst h0
        rw [decide_eq_false (by decide)]
        refine iteF ?_
        refine ⟨.str (S T'), rfl, .int j, rfl, S T', j, 35, rfl, rfl, szT, atS hc, rfl, _, rfl, ?_⟩
        rw [e2, decide_eq_true rfl]
        refine iteT ?_
        obtain ⟨b, R, m', hb, hR, hg', rfl, hRe⟩ : ∃ (b R : Cd) (m' : Nat), (∀ c ∈ b, c ≠ 10) ∧ (R = [] ∨ R.head? = some 10) ∧ Gp R m' ∧ m = 1 + b.length + m' ∧ T'.drop (j + 1) = b ++ R := by
          rw [hdr] at hgj
          generalize T'.drop (j + 1) = R at hgj ⊢
          generalize hh : 35 :: R = R2 at hgj
          cases hgj with
          | stop h => exact absurd rfl (h 35 (by rw [← hh]; rfl)).2.2
          | gap h g =>
            injection hh with h1 h2
            omega
          | @rem b R' k' h1 h2 g =>
            injection hh with h3 h4
            exact ⟨b, R', k', h1, h2, g, rfl, h4⟩
        have hdr' : T'.drop j = (35 :: b) ++ R := by rw [hdr, hRe]; rfl
        have hnb : 10 ∉ (35 :: b) := fun z => by
          rcases List.mem_cons.mp z with z | z
          · omega
          · exact hb 10 z rfl
        have hf := find_at (c := 10) (Nat.le_of_lt hlt) hdr' hnb
        have le := congrArg List.length hdr'
        simp at le
        have hgR : T'.drop (j + 1 + b.length) = R := by
          have := drop_app hdr'
          rw [show j + 1 + b.length = j + (35 :: b).length by simp; omega]
          exact this
        refine ⟨fun σ' H' => H' = H2 ∧ ∃ fv', σ' = [some (.str (S T')), some (.int n), some (.int ((j + 1 + b.length : Nat) : Int)), fv'], fun σ' H' h => ?_, ?_⟩
        · obtain ⟨h1, fv', h2⟩ := h
          exact ⟨m', by omega, j + 1 + b.length, fv', h1, by omega, by rw [hgR]; exact hg', by omega, h2⟩
        refine ⟨.str (S T'), rfl, .int j, rfl, S T', j, 35, rfl, rfl, szT, atS hc, rfl, _, rfl, ?_⟩
        rw [e2, decide_eq_true rfl]
        refine iteT ?_
        refine ⟨.str (S T'), rfl, rfl, .int j, rfl, S T', _, _, rfl, rfl, ?_⟩
        rw [show ("\n" : Str) = ch 10 from rfl]
        rcases hR with hR | hR
        · rw [hf.2 hR]
          refine ⟨_, rfl, _, 0, rfl, rfl, _, rfl, ?_⟩
          rw [decide_eq_false (by decide)]
          refine iteF ⟨.str (S T'), rfl, S T', rfl, szT, rfl, some (.int (-1)), ?_⟩
          rw [hR] at le
          have : j + 1 + b.length = (S T').length := by rw [lT]; simp at le; omega
          rw [this]
          rfl
        · rw [hf.1 hR]
          refine ⟨_, rfl, _, 0, rfl, rfl, _, rfl, ?_⟩
          rw [decide_eq_true (show (0 : Int) ≤ ((j + (35 :: b).length : Nat) : Int) by omega)]
          refine iteT ⟨_, rfl, rfl, some (.int ((j + (35 :: b).length : Nat) : Int)), ?_⟩
          rw [show j + 1 + b.length = j + (35 :: b).length by simp; omega]
          rfl
      · -- a token
        have hm : m = 0 := by
          rw [hdr] at hgj
          generalize T'.drop (j + 1) = R at hgj
          generalize hh : c :: R = R2 at hgj
          cases hgj with
          | stop h => rfl
          | gap h g =>
            injection hh with h1 h2
            omega
          | rem h1 h2 g =>
            injection hh with h3 h4
            omega
        rw [decide_eq_false (show ¬ (c = 32 ∨ c = 10) by omega)]
        refine iteF ?_
        refine ⟨.str (S T'), rfl, .int j, rfl, S T', j, c, rfl, rfl, szT, atS hc, rfl, _, rfl, ?_⟩
        rw [e2, decide_eq_false h0.2.2]
        refine iteF ?_
        exact ⟨_, rfl, stop hm⟩
    · rw [decide_eq_false (show ¬ (j : Int) < (T'.length : Int) by omega)]
      refine iteF ?_
      have hm : m = 0 := by
        have : T'.drop j = [] := List.drop_eq_nil_iff.mpr (by omega)
        rw [this] at hgj
        have := hgj.le
        simpa using this
      exact ⟨_, rfl, stop hm⟩
end
end M02

set_option Elab.async false
set_option linter.all false
set_option maxRecDepth 100000
set_option maxHeartbeats 4000000
/-! the law's own look: _law_string_end, _law_token_end, _law_tokens -/
namespace M02
open PySem PySem.Spec PyProof.Rows L2 GL
theorem scLS : FnScope ["_law_page", "_law_at", "_law_end"] ["_law_page", "_law_at"] (defScope sLStr) := ⟨rfl, rfl, rfl, by decide +kernel, rfl, by decide +kernel, by decide +kernel⟩
theorem scLK : FnScope ["_law_page", "_law_at", "_law_letters", "_law_end"] ["_law_page", "_law_at"] (defScope sLTok) := ⟨rfl, rfl, rfl, by decide +kernel, rfl, by decide +kernel, by decide +kernel⟩
theorem scLL : FnScope ["_law_page", "_law_found", "_law_at", "_law_end"] ["_law_page"] (defScope sLToks) := ⟨rfl, rfl, rfl, by decide +kernel, rfl, by decide +kernel, by decide +kernel⟩
section
variable {X : Cx}
/-- s.index(t, i), found -/
theorem mt_indexF : MtR X "str.index" (fun x xs H Q => ∃ (a b : Str) (i : Int) (k : Nat), x = .str a ∧ xs = [.str b, .int i] ∧ Txt.find3 a b i = (k : Int) ∧ Q (.int (k : Int)) H) := by
  intro pins s σ H x xs v us Q I rx rs h
  obtain ⟨a, b, i, k, rfl, rfl, hk, w⟩ := h
  obtain ⟨t, rfl⟩ := rx
  cases rs with
  | cons r1 rs =>
    cases rs with
    | cons r2 rs =>
      cases rs
      obtain ⟨u, rfl⟩ := r1
      obtain ⟨z, rfl⟩ := r2
      unfold Txt.find3 at hk
      cases q : Builtin.Str.occurrences a b (fromIndex a.length i) a.length 1 with
      | nil =>
        rw [q] at hk
        have hk : (-1 : Int) = k := hk
        omega
      | cons j rest =>
        rw [q] at hk
        have hk : (j : Int) = k := hk
        have e : j = k := by omega
        subst e
        exact call_gives PySem.F.slot_str_index (typeIs_str _ _ _) PySem.F.entry_str_index (PySem.F.args_str_index_3 _ _ _) (gives_str_index_from a b i t u z j rest q) ⟨.int (j : Nat), H, I.tok _, ⟨_, rfl⟩, w⟩
end
theorem cut_E {T : Cd} {i : Nat} (h : i ≤ T.length) : cutS (S T) (some (i : Int)) none = S (T.drop i) := by
  have e : (S T).length = T.length := len_S T
  unfold cutS
  have h1 : HT.sIx (S T).length 0 (some (i : Int)) = i := by rw [HT.sIx_nat, e]; exact Nat.min_eq_left h
  rw [h1, HT.sIx_none, e]
  simp only [S]
  rw [List.take_of_length_le (by simp)]
theorem Tok.letsAll {t r : Cd} {c : Nat} (h : Tok t) (e : t = c :: r) (hc : c ∈ lets) : ∀ d ∈ t, d ∈ lets := by
  have h1 := mem_lets.mp hc
  cases h with
  | word _ h2 => exact h2
  | num _ h2 =>
    have := mem_digs.mp (h2 c (by rw [e]; exact List.mem_cons_self))
    omega
  | str hb =>
    injection e with e1
    omega
  | sign h2 =>
    injection e with e1
    have := mem_sgns.mp h2
    omega
theorem Tok.digsAll {t r : Cd} {c : Nat} (h : Tok t) (e : t = c :: r) (hc : c ∈ digs) : (∀ d ∈ t, d ∈ digs) ∧ (c = 48 → t.length = 1) := by
  have h1 := mem_digs.mp hc
  cases h with
  | word _ h2 =>
    have := mem_lets.mp (h2 c (by rw [e]; exact List.mem_cons_self))
    omega
  | num _ h2 h3 => exact ⟨h2, fun z => h3 (by rw [e, z]; rfl)⟩
  | str hb =>
    injection e with e1
    omega
  | sign h2 =>
    injection e with e1
    have := mem_sgns.mp h2
    omega
section
variable {P : Program} {w : World} {K : PySem.W.Frag} {mg : Str → Option Value} {base : Heap}
def spLS : Sp := fun vs H Q _ => ∃ (T b r : Cd) (n : Nat), vs = [.str (S T), .int n] ∧ T.length ≤ 1000000 ∧ T.drop n = 34 :: (b ++ 34 :: r) ∧ Inn b ∧ Q (.int ((n + b.length + 2 : Nat) : Int)) H
theorem ok_ls {f : Addr} {fd : FuncData} (F : Fun K "_law_string_end" "_law_string_end" sLStr f fd) (T : Bl K mg) : FnOk P w K mg base CX0 1 f fd ["_law_page", "_law_at"] spLS := by
  refine F.ok scLS (fun vs H Q E h => ?_) (fun cdv A outer s H vs Q E hr h => ?_)
  · obtain ⟨_, _, _, _, rfl, _⟩ := h
    rfl
  · obtain ⟨T', b, r, n, rfl, hT, e, hb, q⟩ := h
    refine ⟨_, (pss_cons (ps_set (i := 2) scLS.nd rfl (Or.inl rfl) (pe_op op_add (pv 1) pe_int))
      (pss_cons (ps_while PassesOwn.never (PW.pt (pw_and (pt_cmpR op_lt (pv 2) (pe_callB call_len_str (by rfl) T.len (by decide +kernel) (pa_cons (pv 0) pa_nil)) (nomark _)) (pw_and (pt_cmpR op_notIn_sign (pe_ix ix_str (pv 0) (pv 2) (fun _ _ => rfl)) pe_str (by rfl)) (pw_and1 (pt_cmpR op_lt (pe_op op_sub (pv 2) (pv 1)) pe_int (nomark _))))))
        (pss_one (ps_set (i := 2) scLS.nd rfl (Or.inl rfl) (pe_op op_add (pv 2) pe_int))))
      (pss_one (ps_ret (pe_ifExp (PW.pt (pw_and (pt_cmpR op_lt (pv 2) (pe_callB call_len_str (by rfl) T.len (by decide +kernel) (pa_cons (pv 0) pa_nil)) (nomark _)) (pw_and (pt_cmpR op_eq (pe_ix ix_str (pv 0) (pv 2) (fun _ _ => rfl)) pe_str (nomark _)) (pw_and1 (pt_cmpR op_lt (pe_op op_sub (pv 2) (pv 1)) pe_int (nomark _)))))) (pe_op op_add (pv 2) pe_int) pe_non))))), ?_⟩
    have lT : (S T').length = T'.length := len_S T'
    have szT : (S T').length ≤ sizeLine := by rw [lT]; exact big_le hT
    have e1 : T'.drop (n + 1) = b ++ 34 :: r := drop_app (a := [34]) e
    have le := congrArg List.length e
    simp at le
    have hbl := hb.1
    have at_ : ∀ j, T'[n + 1 + j]? = (b ++ 34 :: r)[j]? := fun j => by rw [← e1, List.getElem?_drop]
    have hq : T'[n + 1 + b.length]? = some 34 := by rw [at_, List.getElem?_append_right (Nat.le_refl _), Nat.sub_self]; rfl
    refine ⟨.int n, rfl, n, 1, rfl, rfl, ?_⟩
    refine ⟨fun k σ H2 => ∃ j : Nat, H2 = H ∧ k = b.length - j ∧ j ≤ b.length ∧ σ = [some (.str (S T')), some (.int n), some (.int ((n + 1 + j : Nat) : Int))], ⟨b.length, 0, rfl, rfl, Nat.zero_le _, rfl⟩, fun k σ H2 h => ?_⟩
    obtain ⟨j, rfl, rfl, hj, rfl⟩ := h
    refine ⟨.int ((n + 1 + j : Nat) : Int), rfl, .str (S T'), rfl, S T', rfl, szT, _, _, rfl, rfl, _, rfl, ?_⟩
    rw [lT, decide_eq_true (show ((n + 1 + j : Nat) : Int) < (T'.length : Int) by omega)]
    refine iteT ?_
    by_cases hlt : j < b.length
    · obtain ⟨c, hc⟩ : ∃ c, b[j]? = some c := ⟨_, List.getElem?_eq_getElem hlt⟩
      have hcb : c ∈ b := List.mem_of_getElem? hc
      have hcT : T'[n + 1 + j]? = some c := by rw [at_, List.getElem?_append_left hlt]; exact hc
      obtain ⟨c1, c2, c3, c4⟩ := hb.2 c hcb
      refine ⟨.str (S T'), rfl, .int ((n + 1 + j : Nat) : Int), rfl, S T', _, c, rfl, rfl, szT, atS hcT, c, _, rfl, rfl, _, rfl, ?_⟩
      have e2 : (!decide (c ∈ (Str.cps "\"\n\\").toList)) = true := by
        have : c ∉ [34, 10, 92] := by simp; omega
        rw [show (Str.cps "\"\n\\").toList = [34, 10, 92] by decide +kernel, decide_eq_false this]
        rfl
      rw [e2]
      refine iteT ⟨.int ((n + 1 + j : Nat) : Int), rfl, .int n, rfl, _, _, rfl, rfl, _, 62, rfl, rfl, _, rfl, ?_⟩
      rw [decide_eq_true (show ((n + 1 + j : Nat) : Int) - (n : Int) < 62 by omega)]
      refine iteT ⟨fun σ' H' => H' = H2 ∧ σ' = [some (.str (S T')), some (.int n), some (.int ((n + 1 + (j + 1) : Nat) : Int))], fun σ' H' h => ⟨b.length - (j + 1), by omega, j + 1, h.1, rfl, by omega, h.2⟩, ?_⟩
      refine ⟨_, rfl, _, _, rfl, rfl, rfl, ?_⟩
      rw [show ((n + 1 + (j + 1) : Nat) : Int) = ((n + 1 + j : Nat) : Int) + 1 by omega]
      rfl
    · have ej : j = b.length := by omega
      subst ej
      refine ⟨.str (S T'), rfl, .int ((n + 1 + b.length : Nat) : Int), rfl, S T', _, 34, rfl, rfl, szT, atS hq, 34, _, rfl, rfl, _, rfl, ?_⟩
      rw [show (!decide (34 ∈ (Str.cps "\"\n\\").toList)) = false by decide +kernel]
      refine iteF (?_ : (if false = true then _ else _))
      refine iteF ?_
      refine ⟨.int ((n + 1 + b.length : Nat) : Int), rfl, .str (S T'), rfl, S T', rfl, szT, _, _, rfl, rfl, _, rfl, ?_⟩
      rw [lT, decide_eq_true (show ((n + 1 + b.length : Nat) : Int) < (T'.length : Int) by omega)]
      refine iteT ⟨.str (S T'), rfl, .int ((n + 1 + b.length : Nat) : Int), rfl, S T', _, 34, rfl, rfl, szT, atS hq, rfl, _, rfl, ?_⟩
      rw [show decide (V.str (ch 34) = V.str "\"") = true by decide +kernel]
      refine iteT ⟨.int ((n + 1 + b.length : Nat) : Int), rfl, .int n, rfl, _, _, rfl, rfl, _, 62, rfl, rfl, _, rfl, ?_⟩
      rw [decide_eq_true (show ((n + 1 + b.length : Nat) : Int) - (n : Int) < 62 by omega)]
      refine iteT ⟨_, rfl, _, _, rfl, rfl, ?_⟩
      rw [show ((n + b.length + 2 : Nat) : Int) = ((n + 1 + b.length : Nat) : Int) + 1 by omega] at q
      exact q
end
end M02

set_option Elab.async false
set_option linter.all false
set_option maxRecDepth 100000
/-! the heap never shrinks -/
namespace GT
open PySem
open Sem (wp)
theorem push_size (h : Heap) (o : Obj) : (h.push o).objs.size = h.objs.size + 1 := Heap.size_push h o
theorem runs_hsz {M : Model} {Γ : Ctx} {p : Pos} {t : Sem PySem.Fin} {fs : List Frame} {s s' : Shared} {e : End} (h : Runs M Γ p t fs s e s') : s.heap.objs.size ≤ s'.heap.objs.size := by
  induction h <;> (try simp only [Shared.setGen, Heap.size_update, push_size] at *) <;> omega
theorem wakes_hsz {M : Model} {Γ : Ctx} {p : Pos} {g : Nat} {r : Resume} {s s' : Shared} {res : GenResult} (h : Wakes M Γ p g r s res s') : s.heap.objs.size ≤ s'.heap.objs.size := by
  unfold Wakes at h
  split at h
  · exact h.elim
  · split at h
    · obtain ⟨e₁, s₁, hr, _, _, rfl⟩ := h
      have z := runs_hsz hr
      exact z
    · rw [h.2]; exact Nat.le_refl _
    · rw [h.2]; exact Nat.le_refl _
  · obtain ⟨e₁, s₁, hr, _, _, rfl⟩ := h
    have z := runs_hsz hr
    exact z
  · rw [h.2]; exact Nat.le_refl _
  · rw [h.2]; exact Nat.le_refl _
theorem wp_hsz {α : Type} (M : Model) (Γ : Ctx) (n : Nat) (t : Sem α) : ∀ (Q : α → Pos → Shared → Prop) (E : Value → Pos → Shared → Prop) (p : Pos) (s : Shared), n ≤ s.heap.objs.size → wp M Γ t Q E p s →
    wp M Γ t (fun a p' s' => n ≤ s'.heap.objs.size ∧ Q a p' s') (fun e p' s' => n ≤ s'.heap.objs.size ∧ E e p' s') p s := by
  induction t with
  | pure a => intro Q E p s z h; exact ⟨z, h⟩
  | raise e => intro Q E p s z h; exact ⟨z, h⟩
  | unsupported _ => intro Q E p s _ h; exact h
  | finish _ => intro Q E p s _ h; exact h
  | rule _ k ih => intro Q E p s z h; exact ih () Q E p s z h
  | «at» p' k ih => intro Q E p s z h; exact ih () Q E p' s z h
  | load a _ k ih => intro Q E p s z h; obtain ⟨o, ho, h⟩ := h; exact ⟨o, ho, ih o Q E p s z h⟩
  | update a _ f k ih => intro Q E p s z h; exact ⟨h.1, ih () Q E p _ (by show n ≤ (s.heap.update a f).objs.size; rw [Heap.size_update]; exact z) h.2⟩
  | loadIfAlive a k ih => intro Q E p s z h; exact ih _ Q E p s z h
  | point _ k ih => intro Q E p s z h; exact ih () Q E p s z h
  | register _ _ => intro Q E p s _ h; exact h
  | alloc o k ih => intro Q E p s z h; exact ih _ Q E p _ (by show n ≤ (s.heap.push o).objs.size; rw [push_size]; omega) h
  | fresh k ih => intro Q E p s z h; exact ih _ Q E p _ z h
  | ask k ih => intro Q E p s z h; exact ih _ Q E p s z h
  | choose src m k ih => intro Q E p s z h; exact ⟨h.1, ih _ Q E p _ z h.2⟩
  | os q _ k ih => intro Q E p s z h; exact ih _ Q E p _ z h
  | call c hd _ _ k ih => intro Q E p s z h; obtain ⟨r, s', hr, h⟩ := h; exact ⟨r, s', hr, ih r Q E p s' (Nat.le_trans z (runs_hsz hr)) h⟩
  | handled own k ih => intro Q E p s z h; exact ih _ Q E p s z h
  | genState g k ih => intro Q E p s z h; obtain ⟨st, hs, h⟩ := h; exact ⟨st, hs, ih _ Q E p s z h⟩
  | newGen c k ih => intro Q E p s z h; exact ih _ Q E p _ z h
  | resume g r _ k ih => intro Q E p s z h; obtain ⟨res, s', hw, h⟩ := h; exact ⟨res, s', hw, ih res Q E p s' (Nat.le_trans z (wakes_hsz hw)) h⟩
  | yield _ _ _ _ => intro Q E p s _ h; exact h
  | stack k ih => intro Q E p s z h; exact ih _ Q E p s z h
  | fork _ _ => intro Q E p s _ h; exact h
  | thread k ih => intro Q E p s z h; exact ih _ Q E p s z h
  | await _ _ _ _ _ => intro Q E p s _ h; exact h
theorem wpAny_hsz {α : Type} {M : Model} {A : Around} {s : Shared} {t : Sem α} {Q : α → Shared → Prop} {E : Value → Shared → Prop} {n : Nat} (z : n ≤ s.heap.objs.size) (h : wpAny M A t Q E s) :
    wpAny M A t (fun a s' => n ≤ s'.heap.objs.size ∧ Q a s') E s :=
  wpAny_mono (fun Γ p hΓ => wp_hsz M Γ n t _ _ p s z (h Γ p hΓ) : wpAny M A t (fun a s' => n ≤ s'.heap.objs.size ∧ Q a s') (fun e s' => n ≤ s'.heap.objs.size ∧ E e s') s) (fun _ _ x => x) fun _ _ x => x.2
end GT

set_option Elab.async false
set_option linter.all false
set_option maxRecDepth 100000
set_option maxHeartbeats 1000000
/-! Generators that are woken by any consumer: a segment (from a waking to the next yield) is walked in a context of its own. -/
namespace GT
open PySem PySem.Spec PyProof.Rows L2 GenW

/-- the heap below L -/
def below (h : Heap) (L : Addr) : Heap := ⟨h.objs.extract 0 L, h.life⟩
theorem below_size {h : Heap} {L : Addr} : (below h L).objs.size ≤ L := by
  show (h.objs.extract 0 L).size ≤ L
  rw [Array.size_extract]
  omega
theorem below_get {h : Heap} {L b : Addr} (hb : b < L) : (below h L).get? b = h.get? b := by
  have e : (h.objs.extract 0 L)[b]? = h.objs[b]? := by
    rw [Array.getElem?_extract]
    split
    · simp
    · rename_i z
      have hb' : @LT.lt Nat _ b L := hb
      have : h.objs.size ≤ b := by omega
      exact (Array.getElem?_eq_none this).symm
  unfold below Heap.get?
  rw [e]
theorem of_below {h : Heap} {L b : Addr} {o : Obj} (e : (below h L).get? b = some o) : b < L ∧ h.get? b = some o := by
  have hb : b < L := Nat.lt_of_lt_of_le (Heap.lt_size e) below_size
  rw [below_get hb] at e
  exact ⟨hb, e⟩
theorem funs_below {h base : Heap} {L : Addr} : ∀ {l : List Env}, h.FunFrames base l → (∀ b ∈ frs l, b < L) → (below h L).FunFrames base l
  | [], _, _ => trivial
  | env :: r, ⟨hk, ⟨b, o, hf, hn, ho, hd⟩, hr⟩, hl => by
    have e : frs (env :: r) = b :: frs r := by
      unfold frs
      rw [List.filterMap_cons, hf]
    rw [e] at hl
    exact ⟨hk, ⟨b, o, hf, hn, by rw [below_get (hl b List.mem_cons_self)]; exact ho, hd⟩, funs_below hr fun c hc => hl c (List.mem_cons_of_mem _ hc)⟩

abbrev noH : Hp := fun _ => none
abbrev shut (s : Shared) (L : Addr) : Shared := { s with heap := below s.heap L }
/-- the context of a segment that begins at s -/
def cxS (P : Program) (w : World) (K : PySem.W.Frag) (mg : Str → Option Value) (base : Heap) (N : List Str) (qual : Str) (scope : Scope) (f : Addr) (cd : Value) (A : Around) (outer : List Env) (s : Shared) (L : Addr) : Cx where
  prog := P
  w := w
  K := K
  mg := mg
  base := base
  A := A.deeper (envOfC qual scope L f cd)
  N := N
  s_0 := shut s L
  H_0 := noH
  env := envOfC qual scope L f cd
  outer := outer
  stack := envOfC qual scope L f cd :: outer
  ex := []
  calm := true
  fn := fun _ => true
  pn := []
  xe := fun _ _ => False

def notCell (o : Obj) : Bool := match o.data with
  | .cell _ => false
  | _ => true
theorem notCell_iff {o : Obj} : notCell o = true ↔ ∀ v, o.data ≠ .cell v := by
  unfold notCell
  cases h : o.data <;> simp
/-- all that stands above L and is no cell -/
def pinsOf (h : Heap) (L : Addr) : List (Addr × Obj) := (List.range h.objs.size).filterMap fun a => match h.get? a with
  | some o => if L < a ∧ notCell o = true then some (a, o) else none
  | none => none
theorem mem_pinsOf {h : Heap} {L a : Addr} {o : Obj} (e : h.get? a = some o) (h1 : L < a) (h2 : notCell o = true) : (a, o) ∈ pinsOf h L :=
  List.mem_filterMap.mpr ⟨a, List.mem_range.mpr (Heap.lt_size e), by simp [e, h1, h2]⟩
theorem of_pinsOf {h : Heap} {L : Addr} {p : Addr × Obj} (hp : p ∈ pinsOf h L) : h.get? p.1 = some p.2 ∧ L < p.1 ∧ notCell p.2 = true := by
  obtain ⟨b, _, e⟩ := List.mem_filterMap.mp hp
  cases q : h.get? b with
  | none => rw [q] at e; cases e
  | some o =>
    rw [q] at e
    by_cases z : L < b ∧ notCell o = true
    · rw [show (match some o with | some o => if L < b ∧ notCell o = true then some (b, o) else none | none => none) = some (b, o) from if_pos z] at e
      cases e
      exact ⟨q, z⟩
    · rw [show (match some o with | some o => if L < b ∧ notCell o = true then some (b, o) else none | none => none) = none from if_neg z] at e
      cases e

/-- a generator's frame at L, ready to be woken: its slots σ -/
structure Wk (K : PySem.W.Frag) (mg : Str → Option Value) (base : Heap) (outer : List Env) (N : List Str) (scope : Scope) (L : Addr) (σ : L2.St) (s : Shared) : Prop where
  mod : Mod K mg base
  bs : ∀ b o, base.get? b = some o → s.heap.get? b = some o
  bsz : base.objs.size ≤ L
  funs : s.heap.FunFrames base outer
  frl : ∀ b ∈ frs outer, b < L
  bare : AllBare s.gens
  loc : ∃ m, s.heap.Ns L m ∧ ∀ (i : Nat) (x : Str) (v : V), N[i]? = some x → σ[i]? = some (some v) → Vis scope x → ∃ u, RelV v u ∧ scope.names.lookup x = some .local ∧ m x = some u
  len : σ.length = N.length

/-- what a segment leaves as it was -/
structure Kept (outer : List Env) (L : Addr) (s s1 : Shared) : Prop where
  os : s1.os = s.os
  bare : AllBare s1.gens
  keep : ∀ b o, s.heap.get? b = some o → b ≠ L → b ∉ frs outer → (L < b → notCell o = true) → s1.heap.get? b = some o
  slot : ∀ b o, s.heap.get? b = some o → b ∈ frs outer → ∃ sl, s1.heap.get? b = some { o with slots := sl }

section
variable {P : Program} {w : World} {K : PySem.W.Frag} {mg : Str → Option Value} {base : Heap} {N : List Str} {qual : Str} {scope : Scope} {f : Addr} {cd : Value} {A : Around} {outer : List Env} {s s1 : Shared} {L : Addr} {σ σ' : L2.St} {H : Hp}

theorem Wk.inv (W : Wk K mg base outer N scope L σ s) (nc : cellsFrom (L + 1) scope.names [] = []) (nf : ∀ x, scope.names.lookup x ≠ some .cell ∧ scope.names.lookup x ≠ some .free) (hk : scope.kind = .function) (hd : A.handled = none) (hfr : A.frames = some outer) :
    Inv (cxS P w K mg base N qual scope f cd A outer s L) (pinsOf s.heap L) σ noH s := by
  have nc' : ∀ (x : Str) (c : Addr), (envOfC qual scope L f cd).cells.lookup x = some c → False := fun x c h => by
    have e : (envOfC qual scope L f cd).cells = [] := nc
    rw [e] at h
    cases h
  have low : ∀ b o, base.get? b = some o → b < L := fun b o e => Nat.lt_of_lt_of_le (Heap.lt_size e) W.bsz
  refine ⟨⟨W.mod, hk, rfl, rfl, below_size, fun x y c h _ => (nc' x c h).elim, fun x hx => ?_, fun x c _ h => (nc' x c h).elim, fun _ => hd, Around.frames_deeper hfr,   .inr ⟨rfl, rfl⟩, fun b hb => (by cases hb), fun b o e => ⟨?_, rfl⟩, ?_, fun b _ _ hb => (by cases hb), fun b hb => (by cases hb), ?_, fun _ _ => rfl⟩,
    rfl, W.bare, Un.kept fun b o e => (of_below e).2, ?_, fun x c h => (nc' x c h).elim, rfl, fun x c h => (nc' x c h).elim, fun p hp => ?_, fun b o e => (by cases e), W.len⟩
  · rcases hx with h | h
    · exact absurd h (nf x).1
    · exact absurd h (nf x).2
  · show (below s.heap L).get? b = some o
    rw [below_get (low b o e)]
    exact W.bs b o e
  · show base.objs.size ≤ (below s.heap L).objs.size
    obtain ⟨m, hn, _⟩ := W.loc
    have h1 : @LT.lt Nat _ L s.heap.objs.size := hn.lt
    show base.objs.size ≤ (s.heap.objs.extract 0 L).size
    rw [Array.size_extract]
    have h2 : @LE.le Nat _ base.objs.size L := W.bsz
    omega
  · exact funs_below W.funs W.frl
  · obtain ⟨m, hn, hl⟩ := W.loc
    refine ⟨m, hn, fun i x v h1 h2 h3 => ?_⟩
    obtain ⟨u, r, k, e⟩ := hl i x v h1 h2 h3
    exact ⟨u, r, .inl ⟨k, e⟩⟩
  · have hp' : p ∈ pinsOf s.heap L := by simpa [cxS] using hp
    obtain ⟨h1, h2, h3⟩ := of_pinsOf hp'
    exact ⟨h1, rfl, Nat.ne_of_gt h2, fun hm => absurd (W.frl _ hm) (Nat.not_lt.mpr (Nat.le_of_lt h2)), notCell_iff.mp h3⟩

theorem kept_of (W : Wk K mg base outer N scope L σ s) (I : Inv (cxS P w K mg base N qual scope f cd A outer s L) (pinsOf s.heap L) σ' H s1) : Kept outer L s s1 where
  os := I.os
  bare := I.bare
  keep := fun b o e h1 h2 h3 => by
    rcases Nat.lt_or_ge b L with z | z
    · exact I.base.keep b o (by show (below s.heap L).get? b = some o; rw [below_get z]; exact e) rfl h2 (fun h => by cases h)
    · have z : L < b := Nat.lt_of_le_of_ne z (Ne.symm h1)
      exact (I.pin (b, o) (List.mem_append_right _ (mem_pinsOf e z (h3 z)))).1
  slot := fun b o e h => I.base.slot b o (by show (below s.heap L).get? b = some o; rw [below_get (W.frl b h)]; exact e) rfl h (fun h => by cases h)

/-- where the segment ends its frame waits again, whatever the consumer does meanwhile -/
theorem Wk.again (W : Wk K mg base outer N scope L σ s) (nf : ∀ x, scope.names.lookup x ≠ some .cell ∧ scope.names.lookup x ≠ some .free) (I : Inv (cxS P w K mg base N qual scope f cd A outer s L) (pinsOf s.heap L) σ' H s1) {s2 : Shared}
    (hL : ∀ o, s1.heap.get? L = some o → s2.heap.get? L = some o) (hbs : ∀ b o, base.get? b = some o → s2.heap.get? b = some o) (hfu : s2.heap.FunFrames base outer) (hb : AllBare s2.gens) : Wk K mg base outer N scope L σ' s2 where
  mod := W.mod
  bs := hbs
  bsz := W.bsz
  funs := hfu
  frl := W.frl
  bare := hb
  loc := by
    obtain ⟨m, ⟨o, es, ep, e, d, r⟩, hl⟩ := I.loc
    refine ⟨m, ⟨o, es, ep, hL o e, d, r⟩, fun i x v h1 h2 h3 => ?_⟩
    obtain ⟨u, rv, hk⟩ := hl i x v h1 h2 h3
    refine ⟨u, rv, ?_⟩
    rcases hk with ⟨k, e⟩ | ⟨k | k, _⟩
    · exact ⟨k, e⟩
    · exact absurd k (nf x).1
    · exact absurd k (nf x).2
  len := I.len
end
end GT

set_option Elab.async false
set_option linter.all false
set_option maxRecDepth 100000
set_option maxHeartbeats 1000000
/-! a generator of the form: a statement, then while test: a statement, yield a tuple, a statement -/
namespace GT
open PySem PySem.Spec PyProof.Rows L2 GenW

/-- how such a generator's run ends: all is handed out -/
def genR (outer : List Env) (L : Addr) : GenEnd := fun n s₀ r s1 => ((r = .ok (.ret .none) ∨ r = .ok .next) ∧ (n = 0 ∧ Kept outer L s₀ s1)) ∨ ∃ e, r = .error e ∧ False
/-- what it hands out: the tuples out, one by one, each a new one -/
def genY (P : Program) (w : World) (base : Heap) (outer : List Env) (L : Addr) (out : List (List V)) : Protocol := fun n s₀ v s1 kap =>
  ∃ (t : Addr) (xs : List V), v = .ref t ∧ out[out.length - (n + 1)]? = some xs ∧ n + 1 ≤ out.length ∧ Kept outer L s₀ s1 ∧ s₀.heap.objs.size ≤ t ∧ ObjOk P w noH s1.heap t (.tup xs) ∧ (∃ o, s1.heap.get? L = some o ∧ notCell o = true) ∧
    ∀ s2 : Shared, (∀ o, s1.heap.get? L = some o → s2.heap.get? L = some o) → (∀ b o, base.get? b = some o → s2.heap.get? b = some o) → s2.heap.FunFrames base outer → AllBare s2.gens → kap (.send .none) s2

abbrev toNx (σ : L2.St) : Ends := { nx := fun σ' _ => σ' = σ, rt := fun _ _ => False }
structure GB (X : Shared → Cx) (st0 st1 st2 : Stmt) (test : Expr) (es : List Expr) (σ0 : L2.St) (S S1 : Nat → L2.St) (out : List (List V)) : Prop where
  h0 : ∀ s, ∃ t, PS (X s) st0 t ∧ ∀ H, t (toNx (S 0)) σ0 H
  hc : ∀ s i, i ≤ out.length → ∃ t, PT (X s) test t ∧ ∀ H, t (S i) H fun b _ => b = decide (i < out.length)
  h1 : ∀ s i, i < out.length → ∃ t, PS (X s) st1 t ∧ ∀ H, t (toNx (S1 i)) (S i) H
  he : ∀ s i xs, out[i]? = some xs → xs.length ≤ sizeLine ∧ ∃ t, PA (X s) es t ∧ ∀ H, t (S1 i) H fun vs _ => vs = xs
  h2 : ∀ s i, i < out.length → ∃ t, PS (X s) st2 t ∧ ∀ H, t (toNx (S (i + 1))) (S1 i) H

theorem tup_any {P : Program} {w : World} {H H' : Hp} {h : Heap} {a : Addr} {xs : List V} (x : ObjOk P w H h a (.tup xs)) : ObjOk P w H' h a (.tup xs) := x

section
variable {P : Program} {w : World} {K : PySem.W.Frag} {mg : Str → Option Value} {base : Heap} {N : List Str} {qual : Str} {scope : Scope} {f : Addr} {cd : Value} {A : Around} {outer : List Env} {s : Shared} {L : Addr}
  {st0 st1 st2 : Stmt} {test : Expr} {es : List Expr} {tk : Nat} {tp : Pos} {σ0 : L2.St} {S S1 : Nat → L2.St} {out : List (List V)} {yp ep wp' : Pos}

theorem ns_there {h : Heap} {B : (Str → Option Value) → Prop} (x : ∃ m, h.Ns L m ∧ B m) : ∃ o, h.get? L = some o ∧ notCell o = true := by
  obtain ⟨m, ⟨o, es, ep, e, d, _⟩, _⟩ := x
  refine ⟨o, e, ?_⟩
  unfold notCell
  rw [d]
/-- a statement's way through -/
theorem sp_nx {X : Cx} {pins : List (Addr × Obj)} {σ : L2.St} {fl : Flow} {s' : Shared} (h : SP X pins (toNx σ) fl s') : fl = .next ∧ ∃ H', Inv X pins σ H' s' := by
  cases fl with
  | next =>
    obtain ⟨σ', H', I, e⟩ := h
    have e : σ' = σ := e
    subst e
    exact ⟨rfl, H', I⟩
  | brk => obtain ⟨_, _, _, q⟩ := h; exact q.elim
  | cont => obtain ⟨_, _, _, q⟩ := h; exact q.elim
  | ret u => obtain ⟨_, _, _, _, _, q⟩ := h; exact q.elim

theorem loop_gen (B : GB (fun s => cxS P w K mg base N qual scope f cd A outer s L) st0 st1 st2 test es σ0 S S1 out) (nc : cellsFrom (L + 1) scope.names [] = []) (nf : ∀ x, scope.names.lookup x ≠ some .cell ∧ scope.names.lookup x ≠ some .free)
    (hk : scope.kind = .function) (hco : scope.isCoroutine = false) (hint : interactive (envOfC qual scope L f cd) = false) (hd : A.handled = none) (hfr : A.frames = some outer)
    {c : Code} {fs : List Frame} {J : Value → Sem PySem.Fin} {Kf : Flow → Sem PySem.Fin} {gd : Bool → Bool} {lv : List Value → List Value} {p : Pos} (hov : A.over c fs = A.deeper (envOfC qual scope L f cd)) (hsp : splitAtGen fs = none) (hgu : fs.any Frame.guarded = false) (hgd : gd false = false)
    (hK : ∀ s₀ s', Kept outer L s₀ s' → Seg (model P w) A (genR outer L) (genY P w base outer L out) 0 s₀ c (Kf .next) fs s') :
    ∀ (m i : Nat) (s₀ s' : Shared) (H : Hp) (σa : L2.St), i + m = out.length → s₀.heap.objs.size ≤ s'.heap.objs.size → Wk K mg base outer N scope L σa s₀ → Inv (cxS P w K mg base N qual scope f cd A outer s₀ L) (pinsOf s₀.heap L) (S i) H s' →
      Seg (model P w) A (genR outer L) (genY P w base outer L out) m s₀ (.whileLoop test [st1, .Expr (.Yield (some (.Tuple es tk tp)) yp) ep, st2] [] (envOfC qual scope L f cd))
        ((model P w).den (.whileLoop test [st1, .Expr (.Yield (some (.Tuple es tk tp)) yp) ep, st2] [] (envOfC qual scope L f cd)))
        (.ret (fun r => ((match r with | .ok f => (.pure f : Sem Flow) | .error e => .raise e).onRaise (cameBack (envOfC qual scope L f cd))).wrap Kf J gd lv) none (gd false) (lv []) c p [] :: fs) s' := by
  have ov : ∀ (kk : Result → Sem PySem.Fin), A.over (.whileLoop test [st1, .Expr (.Yield (some (.Tuple es tk tp)) yp) ep, st2] [] (envOfC qual scope L f cd)) (.ret kk none (gd false) (lv []) c p [] :: fs) = A.deeper (envOfC qual scope L f cd) := fun kk =>
    (over_loop rfl rfl).trans hov
  have sp : ∀ (kk : Result → Sem PySem.Fin), splitAtGen (Frame.ret kk none (gd false) (lv []) c p [] :: fs) = none := fun kk => by
    show (splitAtGen fs).map _ = none
    rw [hsp]
    rfl
  have gu : ∀ (kk : Result → Sem PySem.Fin), (Frame.ret kk none (gd false) (lv []) c p [] :: fs).any Frame.guarded = false := fun kk => by
    show (gd false || fs.any Frame.guarded) = false
    rw [hgd, hgu]
    rfl
  intro m
  induction m with
  | zero =>
    intro i s₀ s' H σa hi hsz W I
    refine seg_whileLoop ?_
    rw [ov]
    obtain ⟨tc, pc, qc⟩ := B.hc s₀ i (by omega)
    refine wpAny_mono (pc.run _ s' _ H _ I (qc H)) (fun b s2 hb => ?_) fun x s2 hx => hx.elim
    obtain ⟨H2, I2, eb⟩ := hb
    rw [decide_eq_false (by omega)] at eb
    subst eb
    rw [if_neg Bool.false_ne_true]
    exact seg_execs_nil (seg_leaf (.ok .next) (hK s₀ s2 (kept_of W I2)))
  | succ m ih =>
    intro i s₀ s' H σa hi hsz W I
    have hlt : i < out.length := by omega
    refine seg_whileLoop ?_
    rw [ov]
    obtain ⟨tc, pc, qc⟩ := B.hc s₀ i (by omega)
    refine wpAny_mono (wpAny_hsz hsz (pc.run _ s' _ H _ I (qc H))) (fun b s2 hb => ?_) fun x s2 hx => hx.elim
    obtain ⟨z2, H2, I2, eb⟩ := hb
    rw [decide_eq_true hlt] at eb
    subst eb
    rw [if_pos rfl]
    refine seg_execs_cons (seg_wrap ?_)
    rw [ov]
    obtain ⟨t1, p1, q1⟩ := B.h1 s₀ i hlt
    refine wpAny_mono (wpAny_hsz z2 (p1.run _ s2 _ H2 _ I2 (q1 H2))) (fun fl s3 hs => ?_) fun x s3 hx => hx.elim
    obtain ⟨z3, hs⟩ := hs
    obtain ⟨rfl, H3, I3⟩ := sp_nx hs
    refine seg_execs_cons (seg_Expr_Yield (sp _) rfl (gu _) ?_ hco hint)
    rw [ov]
    obtain ⟨xs, hxs⟩ : ∃ xs, out[i]? = some xs := ⟨out[i], List.getElem?_eq_getElem hlt⟩
    obtain ⟨hle, te, pe, qe⟩ := B.he s₀ i xs hxs
    refine wpAny_Tuple_spliced (wpAny_mono (wpAny_hsz z3 (pe.run tp _ s3 _ H3 _ I3 (qe H3))) (fun us s4 hv => ?_) fun x s4 hx => hx.elim)
    obtain ⟨z4, vs, H4, I4', rv, evs⟩ := hv
    have evs : vs = xs := evs
    subst evs
    refine ⟨by rw [← rv.length]; exact hle, ?_⟩
    have I4 := I4'.laid (o := .tup vs) (h' := s4.heap.push { cls := .type "tuple", data := .seq us.toArray }) (t' := s4.toks) (fun b u e => Heap.get?_push_of_some _ e) (Nat.le_refl _) ⟨hle, us, rv, ⟨_, Heap.get?_push_size _ rfl, rfl, _, rfl⟩⟩
    intro kap hkap
    refine ⟨s4.heap.objs.size, vs, rfl, ?_, by omega, kept_of W I4, z4, tup_any (I4.hok _ _ upd_same), ns_there I4.loc, fun s5 hL hbs hfu hba => hkap .none s5 ?_⟩
    · rw [show out.length - (m + 1) = i by omega]
      exact hxs
    have W5 := W.again nf I4 hL hbs hfu hba
    refine seg_execs_cons (seg_wrap ?_)
    rw [ov]
    obtain ⟨t2, p2, q2⟩ := B.h2 s5 i hlt
    refine wpAny_mono (wpAny_hsz (Nat.le_refl _) (p2.run _ s5 _ noH _ (W5.inv nc nf hk hd hfr) (q2 noH))) (fun fl s6 hs => ?_) fun x s6 hx => hx.elim
    obtain ⟨z6, hs⟩ := hs
    obtain ⟨rfl, H6, I6⟩ := sp_nx hs
    exact seg_execs_nil (seg_again rfl (ih (i + 1) s5 s6 H6 _ (by omega) z6 W5 I6))

theorem seg_gen (B : GB (fun s => cxS P w K mg base N qual scope f cd A outer s L) st0 st1 st2 test es σ0 S S1 out) (nc : cellsFrom (L + 1) scope.names [] = []) (nf : ∀ x, scope.names.lookup x ≠ some .cell ∧ scope.names.lookup x ≠ some .free)
    (hk : scope.kind = .function) (hco : scope.isCoroutine = false) (hint : interactive (envOfC qual scope L f cd) = false) (hd : A.handled = none) (hfr : A.frames = some outer) (W : Wk K mg base outer N scope L σ0 s) :
    Seg (model P w) A (genR outer L) (genY P w base outer L out) out.length s (.func [st0, .While test [st1, .Expr (.Yield (some (.Tuple es tk tp)) yp) ep, st2] [] wp'] (envOfC qual scope L f cd))
      ((model P w).den (.func [st0, .While test [st1, .Expr (.Yield (some (.Tuple es tk tp)) yp) ep, st2] [] wp'] (envOfC qual scope L f cd))) [] s := by
  refine seg_func (seg_execs_cons (seg_wrap ?_))
  rw [over_func]
  obtain ⟨t0, p0, q0⟩ := B.h0 s
  refine wpAny_mono (wpAny_hsz (Nat.le_refl _) (p0.run _ s σ0 noH _ (W.inv nc nf hk hd hfr) (q0 noH))) (fun fl s' hs => ?_) fun x s' hx => hx.elim
  obtain ⟨z', hs⟩ := hs
  obtain ⟨rfl, H', I'⟩ := sp_nx hs
  refine seg_execs_cons (seg_While fun p => ?_)
  refine loop_gen (c := .func _ _) (fs := []) B nc nf hk hco hint hd hfr over_func rfl rfl rfl (fun s₀ s' k => ?_) out.length 0 s s' H' σ0 (Nat.zero_add _) z' W I'
  exact seg_execs_nil (seg_end (.ok (.ret .none)) (.inl ⟨.inl rfl, rfl, k⟩))
end
end GT

set_option Elab.async false
set_option linter.all false
set_option maxRecDepth 100000
set_option maxHeartbeats 1000000
/-! the consumer of a generator: its next item -/
namespace GT
open PySem PySem.Spec PyProof.Rows L2 GenW

/-- the generator at a, of number g, its frame at L, has m tuples of out yet to hand out -/
def Live (P : Program) (w : World) (base : Heap) (outer : List Env) (L : Addr) (out : List (List V)) (A : Around) (a : Addr) (g m : Nat) (s : Shared) : Prop :=
  s.heap.IsGen a g ∧ (∃ o, s.heap.get? L = some o ∧ notCell o = true) ∧ ∃ gs, s.gens[g]? = some gs ∧ ∀ s2 : Shared, (∀ o, s.heap.get? L = some o → s2.heap.get? L = some o) → (∀ b o, base.get? b = some o → s2.heap.get? b = some o) → s2.heap.FunFrames base outer → AllBare s2.gens →
    gs.Goes (model P w) A (genR outer L) (genY P w base outer L out) m (.send .none) s2

def SqO (u : HO) : Prop := (∃ xs, u = .tup xs) ∨ ∃ xs, u = .lst xs
/-- where the consumer stands to the generator -/
structure Hold (X : Cx) (pins : List (Addr × Obj)) (H : Hp) (a L : Addr) : Prop where
  fa : FpOk X pins H a
  fL : FpOk X pins H L
  lt : L < a
  bsz : X.base.objs.size ≤ L
  old : X.s_0.heap.objs.size ≤ L
  loc : X.env.locals < L
  frl : ∀ b ∈ frs X.stack, b < L
  cel : ∀ x c, X.env.cells.lookup x = some c → c < L
  hi : ∀ b u, H b = some u → L < b → SqO u

def cellsAbove (h : Heap) (L : Addr) : List Addr := (List.range h.objs.size).filter fun a => decide (L < a) && (match h.get? a with
  | some o => !notCell o
  | none => false)
theorem mem_cells {h : Heap} {L a : Addr} {o : Obj} (e : h.get? a = some o) (h1 : L < a) (h2 : notCell o = false) : a ∈ cellsAbove h L :=
  List.mem_filter.mpr ⟨List.mem_range.mpr (Heap.lt_size e), by simp [e, h1, h2]⟩
theorem of_cells {h : Heap} {L a : Addr} (hm : a ∈ cellsAbove h L) : L < a ∧ ∃ o, h.get? a = some o ∧ notCell o = false := by
  have := (List.mem_filter.mp hm).2
  rw [Bool.and_eq_true] at this
  refine ⟨of_decide_eq_true this.1, ?_⟩
  cases q : h.get? a with
  | none => rw [q] at this; exact absurd this.2 Bool.false_ne_true
  | some o =>
    rw [q] at this
    refine ⟨o, rfl, ?_⟩
    cases z : notCell o with
    | false => rfl
    | true =>
      have h2 : (!notCell o) = true := this.2
      rw [z] at h2
      exact absurd h2 Bool.false_ne_true
theorem sq_notCell {P : Program} {w : World} {H : Hp} {h : Heap} {a : Addr} {u : HO} {o : Obj} (x : ObjOk P w H h a u) (z : SqO u) (e : h.get? a = some o) : notCell o = true := by
  rcases z with ⟨xs, rfl⟩ | ⟨xs, rfl⟩
  · obtain ⟨_, its, _, ob, e1, _, c, d⟩ := x
    rw [e] at e1
    cases e1
    unfold notCell
    rw [d]
  · obtain ⟨_, its, c, _, e1⟩ := x
    rw [e] at e1
    cases e1
    rfl

section
variable {X : Cx} {pins : List (Addr × Obj)} {σ : L2.St} {H H' : Hp} {s s1 : Shared} {a L : Addr}
/-- what is tracked is kept -/
theorem kept_tracked (I : Inv X pins σ H s) (k : Kept X.stack L s s1) (O : Hold X pins H a L) {b : Addr} {u : HO} (hb : H b = some u) {o : Obj} (e : s.heap.get? b = some o) : s1.heap.get? b = some o := by
  refine k.keep b o e (fun z => ?_) (fun z => ?_) fun z => sq_notCell (I.hok b u hb) (O.hi b u hb z) e
  · rw [z, O.fL.1] at hb
    cases hb
  · have := I.stkFree b z
    rw [hb] at this
    cases this
theorem hok_seg (I : Inv X pins σ H s) (k : Kept X.stack L s s1) (O : Hold X pins H a L) : HOk X.prog X.w H s1.heap := fun b u q => by
  refine (I.hok b u q).stay (fun c v hc y => ?_) (fun _ y => y) fun _ _ y => y
  rcases hc with z | z
  · rw [z] at y ⊢
    exact kept_tracked I k O q y
  · exact kept_tracked I k O z y
theorem inv_core (I : Inv X pins σ H s) (k : Kept X.stack L s s1) (O : Hold X pins H a L) (up : ∀ b u, H b = some u → H' b = some u) (fr : ∀ b o, s.heap.get? b = some o → H b = none → H' b = none) (ok : HOk X.prog X.w H' s1.heap) : Inv X pins σ H' s1 := by
  refine I.call' (ch := L :: cellsAbove s.heap L) k.os ⟨fun b o e n hb hx => ?_, fun b o e n hb hx => k.slot b o e hb, fun b o e n hx => fr b o e n, fun b o e hx => ?_, fun b xs q => up b _ q, fun b o u q => up b _ q, fun b ps q => ⟨#[], by rw [up b _ q]; simp⟩⟩ ok k.bare fun b hb => ?_
  · refine k.keep b o e (fun z => hx (by rw [z]; exact List.mem_cons_self)) hb fun z => ?_
    cases q : notCell o with
    | true => rfl
    | false => exact absurd (List.mem_cons_of_mem _ (mem_cells e z q)) hx
  · by_cases hb : b ∈ frs X.stack
    · obtain ⟨sl, q⟩ := k.slot b o e hb
      exact ⟨_, q⟩
    · refine ⟨o, k.keep b o e (fun z => hx (by rw [z]; exact List.mem_cons_self)) hb fun z => ?_⟩
      cases q : notCell o with
      | true => rfl
      | false => exact absurd (List.mem_cons_of_mem _ (mem_cells e z q)) hx
  · rcases List.mem_cons.mp hb with z | z
    · rw [z]
      exact ⟨O.fL.2.2.2.1, O.fL.2.1, O.fL.2.2.2.2.1, O.fL.2.2.2.2.2⟩
    · obtain ⟨z1, o, z2, z3⟩ := of_cells z
      refine ⟨?_, ?_, ?_, ?_⟩
      · exact .inr (Nat.le_trans O.old (Nat.le_of_lt z1))
      · exact Nat.ne_of_gt (Nat.lt_trans O.loc z1)
      · intro x c hc e
        exact absurd (O.cel x c hc) (by rw [e]; exact Nat.not_lt.mpr (Nat.le_of_lt z1))
      · intro p hp e
        have := (I.pin p hp)
        obtain ⟨p1, _, _, _, p5⟩ := this
        rw [e, z2] at p1
        have := notCell_iff.mpr p5
        rw [← Option.some.inj p1, z3] at this
        cases this
theorem inv_seg (I : Inv X pins σ H s) (k : Kept X.stack L s s1) (O : Hold X pins H a L) : Inv X pins σ H s1 :=
  inv_core I k O (fun _ _ h => h) (fun _ _ _ h => h) (hok_seg I k O)
theorem inv_segT (I : Inv X pins σ H s) (k : Kept X.stack L s s1) (O : Hold X pins H a L) {t : Addr} {xs : List V} (ht : s.heap.objs.size ≤ t) (new : ObjOk X.prog X.w noH s1.heap t (.tup xs)) : Inv X pins σ (upd H t (.tup xs)) s1 := by
  have hn : H t = none := I.hok.fresh ht
  refine inv_core I k O (fun b u q => by rw [upd_ne (ne_of_none q hn)]; exact q) (fun b o e n => by rw [upd_ne (Nat.ne_of_lt (Nat.lt_of_lt_of_le (Heap.lt_size e) ht))]; exact n) fun b u q => ?_
  by_cases z : b = t
  · subst z
    rw [upd_same] at q
    cases q
    exact new
  · rw [upd_ne z] at q
    refine (hok_seg I k O b u q).stay (fun _ _ _ y => y) (fun d y => by rw [upd_ne (ne_of_none y hn)]; exact y) fun d ys y => by rw [upd_ne (ne_of_none y hn)]; exact y
theorem funs_slots {h h' base : Heap} : ∀ {l : List Env}, h.FunFrames base l → (∀ b o, h.get? b = some o → b ∈ frs l → ∃ sl, h'.get? b = some { o with slots := sl }) → h'.FunFrames base l
  | [], _, _ => trivial
  | env :: r, ⟨hk, ⟨b, o, hf, hn, ho, hd⟩, hr⟩, hl => by
    have e : frs (env :: r) = b :: frs r := by
      unfold frs
      rw [List.filterMap_cons, hf]
    rw [e] at hl
    obtain ⟨sl, q⟩ := hl b o ho List.mem_cons_self
    exact ⟨hk, ⟨b, _, hf, hn, q, hd⟩, funs_slots hr fun c o' ho' hc => hl c o' ho' (List.mem_cons_of_mem _ hc)⟩
theorem Kept.gens {outer : List Env} {g : Nat} {x y : GenState} (k : Kept outer L (s.setGen g x) s1) (hy : y.bare = true) : Kept outer L s (s1.setGen g y) :=
  ⟨k.os, allBare_setGen k.bare hy, k.keep, k.slot⟩
theorem Kept.more {outer : List Env} {h' : Heap} (k : Kept outer L s s1) (hk : ∀ b o, s1.heap.get? b = some o → h'.get? b = some o) : Kept outer L s { s1 with heap := h' } :=
  ⟨k.os, k.bare, fun b o e h1 h2 h3 => hk b o (k.keep b o e h1 h2 h3), fun b o e h => let ⟨sl, q⟩ := k.slot b o e h; ⟨sl, hk _ _ q⟩⟩
theorem gen_kept {g : Nat} {outer : List Env} (k : Kept outer L s s1) (hg : s.heap.IsGen a g) (lt : L < a) (fr : ∀ b ∈ frs outer, b < L) : s1.heap.IsGen a g := by
  obtain ⟨o, nm, qn, e, hc, hd, hs⟩ := hg
  refine ⟨o, nm, qn, k.keep a o e (Nat.ne_of_gt lt) (fun z => absurd (fr a z) (Nat.not_lt.mpr (Nat.le_of_lt lt))) fun _ => ?_, hc, hd, hs⟩
  unfold notCell
  rw [hd]

variable {out : List (List V)} {A : Around} {g m : Nat} {E : Value → Shared → Prop}
/-- the next item -/
theorem next_live (hh : A.handled = none) (hroom : A.depth < recursionLimit) (I : Inv X pins σ H s) (O : Hold X pins H a L) (Lv : Live X.prog X.w X.base X.stack L out A.in1 a g (m + 1) s) :
    wpAny (model X.prog X.w) A (pyNext (.ref a)) (fun r s1 => ∃ (t : Addr) (xs : List V), r = some (.ref t) ∧ out[out.length - (m + 1)]? = some xs ∧ m + 1 ≤ out.length ∧ s.heap.objs.size ≤ t ∧ Inv X pins σ (upd H t (.tup xs)) s1 ∧ Live X.prog X.w X.base X.stack L out A.in1 a g m s1) E s := by
  obtain ⟨hg, _, gs, hgs, go⟩ := Lv
  have hgl : g < s.gens.size := (Array.getElem?_eq_some_iff.mp hgs).1
  refine wpAny_gsz (n := g + 1) hgl (next_genG (F := fun n s₀ s₁ => n = 0 ∧ Kept X.stack L s₀ s₁) (Er := fun _ _ => False) (Y := genY X.prog X.w X.base X.stack L out) (n := m + 1) hh I.nolimit hroom hg hgs
    (go (s.setGen g .running) (fun _ e => e) (fun b o e => I.bk b o e) I.stack (allBare_setGen I.bare rfl)) (fun v s₁ gs' hb hv => ?_) (fun s₁ hp => ?_) fun e s₁ he => he.elim)
  · obtain ⟨t, xs, rfl, hx, hle, k, ht, new, lo, kap⟩ := hv
    intro hsz
    have hsz1 : g < s₁.gens.size := by
      have q : (s₁.setGen g gs').gens.size = s₁.gens.size := setGen_size _ _ _
      have hsz' : g + 1 ≤ (s₁.setGen g gs').gens.size := hsz
      omega
    have k' : Kept X.stack L s (s₁.setGen g gs') := k.gens hb
    refine ⟨t, xs, rfl, hx, hle, ht, inv_segT I k' O ht new, gen_kept k' hg O.lt O.frl, lo, gs', setGen_at hsz1, fun s2 h1 h2 h3 h4 => ?_⟩
    exact kap s2 h1 h2 h3 h4
  · exact absurd hp.1 (Nat.succ_ne_zero m)
/-- there is none left -/
theorem done_live (hh : A.handled = none) (hroom : A.depth < recursionLimit) (I : Inv X pins σ H s) (O : Hold X pins H a L) (Lv : Live X.prog X.w X.base X.stack L out A.in1 a g 0 s) :
    wpAny (model X.prog X.w) A (pyNext (.ref a)) (fun r s1 => r = none ∧ Inv X pins σ H s1) E s := by
  obtain ⟨hg, _, gs, hgs, go⟩ := Lv
  refine next_genG (F := fun n s₀ s₁ => n = 0 ∧ Kept X.stack L s₀ s₁) (Er := fun _ _ => False) (Y := genY X.prog X.w X.base X.stack L out) (n := 0) hh I.nolimit hroom hg hgs
    (go (s.setGen g .running) (fun _ e => e) (fun b o e => I.bk b o e) I.stack (allBare_setGen I.bare rfl)) (fun v s₁ gs' hb hv => ?_) (fun s₁ hp h' hk => ?_) fun e s₁ he => he.elim
  · obtain ⟨t, xs, rfl, hx, hle, k, ht, new, lo, kap⟩ := hv
    refine (kap s₁ (fun _ e => e) (fun b o e => ?_) ?_ k.bare).elim
    · have lo : b < L := Nat.lt_of_lt_of_le (Heap.lt_size e) O.bsz
      exact k.keep b o (I.bk b o e) (Nat.ne_of_lt lo) (fun z => by
        have := (I.stack.mem z).1
        rw [e] at this
        cases this) fun z => absurd lo (Nat.not_lt.mpr (Nat.le_of_lt z))
    · exact funs_slots I.stack k.slot
  · exact ⟨rfl, inv_seg I ((hp.2.gens rfl).more hk) O⟩
end
end GT

set_option Elab.async false
set_option linter.all false
set_option maxRecDepth 100000
set_option maxHeartbeats 1000000
/-! a generator def's promise: the tuples that it hands out; its call -/
namespace GT
open PySem PySem.Spec PyProof.Rows L2 GenW GL

/-- what a call gives -/
structure Made (P : Program) (w : World) (base : Heap) (outer : List Env) (k : Nat) (out : List (List V)) (s : Shared) (a : Addr) (g : Nat) (s' : Shared) : Prop where
  lt : s.heap.objs.size < a
  keep : ∀ b o, s.heap.get? b = some o → s'.heap.get? b = some o
  loc : ∃ o, s'.heap.get? s.heap.objs.size = some o ∧ notCell o = true
  os : s'.os = s.os
  bare : AllBare s'.gens
  live : ∀ A' : Around, Room k A' → A'.frames = some outer → Live P w base outer s.heap.objs.size out A' a g out.length s'
structure GFnT (P : Program) (w : World) (K : PySem.W.Frag) (mg : Str → Option Value) (base : Heap) (k : Nat) (f : Addr) (fd : FuncData) (ps : List Str) (sp : List V → List (List V) → Prop) : Prop where
  len : ∀ vs out, sp vs out → vs.length = ps.length
  run : ∀ (A : Around) (outer : List Env) (s : Shared) (H : Hp) (args : Args) (us : List Value) (vs : List V) (out : List (List V)), Room 1 A → Env0 P w K mg base A outer s H → BindsTo s fd args (ps.zip us) → Vals vs us → sp vs out →
    codeAny (model P w) A (.call (.ref f) args) (fun r s' => ∃ a g, r = .ok (.ret (.ref a)) ∧ Made P w base outer k out s a g s') s

section
variable {P : Program} {w : World} {K : PySem.W.Frag} {mg : Str → Option Value} {base : Heap}
theorem gfn_tup {x qual : Str} {st : Stmt} {f : Addr} {fd : FuncData} {N ps : List Str} {k : Nat} {sp : List V → List (List V) → Prop} {st0 st1 st2 : Stmt} {test : Expr} {es : List Expr} {tk : Nat} {tp yp ep wp' : Pos} (F : Fun K x qual st f fd) (S : GScope N ps (defScope st))
    (hbd : defBody st = [st0, .While test [st1, .Expr (.Yield (some (.Tuple es tk tp)) yp) ep, st2] [] wp']) (nc : ∀ L, cellsFrom (L + 1) (defScope st).names [] = []) (nf : ∀ x, (defScope st).names.lookup x ≠ some .cell ∧ (defScope st).names.lookup x ≠ some .free)
    (len : ∀ vs out, sp vs out → vs.length = ps.length)
    (body : ∀ (cdv : Value) (A : Around) (outer : List Env) (L : Addr) (vs : List V) (out : List (List V)), Room k (A.deeper (envOfC qual (defScope st) L f cdv)) → sp vs out →
      ∃ S S1, GB (fun s => cxS P w K mg base N qual (defScope st) f cdv A outer s L) st0 st1 st2 test es (start N vs) S S1 out) : GFnT P w K mg base (k + 1) f fd ps sp := by
  obtain ⟨oc, od, kV, doc, pm, an, cdv, ct, osl, rfl, lk, hcd⟩ := F.ex
  refine ⟨len, fun A outer s H args us vs out hr e0 hb r hsp => ?_⟩
  have hl := len _ _ hsp
  have low : ∀ b o, base.get? b = some o → s.heap.get? b = some o := fun b o e => (e0.bs b o e).1
  have KX : K.In s.heap := e0.mod.kin.keeps low
  refine codeAny_call_generator hr.depth (KX _ _ lk) rfl S.co S.gen rfl (PySem.W.codeRec_of KX hcd) (hb _ _ _ _ (wpAny_newFunctionEnv_cells S.kind ?kind fun env he s1 z => ?_))
  case kind =>
    rintro ⟨n, v⟩ hy
    exact (S.par n (List.of_mem_zip hy).1).imp id fun q => ⟨q, PySem.W.cellsFrom_some _ _ _ (.inl q)⟩
  subst he
  refine ⟨(e0.mod.nolimit.keeps low).keeps z.toInCall.keep, ?_⟩
  obtain ⟨h1, tk1, es1, hk1⟩ := z.done
  have os1 : s1.os = s.os := by rw [es1]
  have gen1 : s1.gens = s.gens := by rw [es1]
  have lt1 : s.heap.objs.size < s1.heap.objs.size := z.toInCall.ns.lt
  have kp1 : ∀ b o, s.heap.get? b = some o → s1.heap.get? b = some o := z.toInCall.keep
  have I1 : Inv (gcxOf P w K mg base N qual (defScope st) f cdv A outer s H (fun _ _ _ => False) []) [] (start N vs) H s1 := inv_startG S hr.hd e0 hl r z
  obtain ⟨m, hn, hlook⟩ := I1.loc
  have hloc : ∃ m, s1.heap.Ns s.heap.objs.size m ∧ ∀ (i : Nat) (x : Str) (v : V), N[i]? = some x → (start N vs)[i]? = some (some v) → Vis (defScope st) x → ∃ u, RelV v u ∧ (defScope st).names.lookup x = some .local ∧ m x = some u := by
    refine ⟨m, hn, fun i x v h1 h2 h3 => ?_⟩
    obtain ⟨u, rv, hk⟩ := hlook i x v h1 h2 h3
    refine ⟨u, rv, ?_⟩
    rcases hk with ⟨k, e⟩ | ⟨k | k, _⟩
    · exact ⟨k, e⟩
    · exact absurd k (nf x).1
    · exact absurd k (nf x).2
  have kp2 : ∀ (go : Obj) b o, s1.heap.get? b = some o → (s1.heap.push go).get? b = some o := fun go b o e => Heap.get?_push_of_some _ e
  refine ⟨s1.heap.objs.size, s1.gens.size, rfl, lt1, fun b o e => kp2 _ b o (kp1 b o e), ?_, os1, AllBare.push (by rw [gen1]; exact e0.bare) rfl, fun A' hr' hfr => ⟨⟨_, _, _, Heap.get?_push_size _ rfl, rfl, rfl, rfl⟩, ?_, _, Array.getElem?_push_size .., fun s2 g1 g2 g3 g4 => ⟨rfl, ?_⟩⟩⟩
  · obtain ⟨o, e, c⟩ := ns_there hloc
    exact ⟨o, kp2 _ _ o e, c⟩
  · obtain ⟨o, e, c⟩ := ns_there hloc
    exact ⟨o, kp2 _ _ o e, c⟩
  · obtain ⟨Sg, S1, B⟩ := body cdv A' outer s.heap.objs.size vs out (hr'.deeper _) hsp
    rw [hbd]
    refine seg_gen B (nc _) nf S.kind S.co ?_ hr'.hd hfr ⟨e0.mod, g2, e0.bsz, g3, fun b hb => ?_, g4, ?_, I1.len⟩
    · unfold interactive
      rw [show (envOfC qual (defScope st) s.heap.objs.size f cdv).scope.kind = .function from S.kind]
      rfl
    · obtain ⟨_, o, e, _⟩ := e0.funs.mem hb
      exact Heap.lt_size e
    · obtain ⟨m, ⟨o, es, ep, e, r⟩, q⟩ := hloc
      exact ⟨m, ⟨o, es, ep, g1 o (kp2 _ _ o e), r⟩, q⟩
end

/-- an expression whose value is a generator that has not begun -/
abbrev TGT := L2.St → Hp → (List (List V) → Hp → Prop) → Prop
structure PGT (X : Cx) (k : Nat) (e : Expr) (tg : TGT) : Prop where
  run : ∀ (pins : List (Addr × Obj)) (s : Shared) (σ : L2.St) (H : Hp) (cont : List (List V) → Hp → Prop), Inv X pins σ H s → tg σ H cont → wpAny (model X.prog X.w) X.A (eval e X.env)
    (fun u s' => ∃ (a : Addr) (g : Nat) (L : Addr) (out : List (List V)) (H1 : Hp), u = .ref a ∧ Inv X pins σ H1 s' ∧ Hold X pins H1 a L ∧ (∀ b u, H1 b = some u → b < L) ∧ (∃ o, s'.heap.get? L = some o ∧ notCell o = true) ∧
      (∀ A' : Around, Room k A' → A'.frames = some X.stack → Live X.prog X.w X.base X.stack L out A' a g out.length s') ∧ cont out H1) X.xe s
section
variable {X : Cx} {k : Nat} {f : Addr} {fd : FuncData} {ps ks : List Str} {sp : List V → List (List V) → Prop} {x : Str} {p pos : Pos} {e : Expr} {es : List Expr} {kws : List Keyword} {t tkw : TA} {g : List Value → List Value → List Value} {gV : List V → List V → List V}
theorem made_inv {pins : List (Addr × Obj)} {σ : L2.St} {H : Hp} {s s' : Shared} {a : Addr} {gn : Nat} {out : List (List V)} (I : Inv X pins σ H s) (M : Made X.prog X.w X.base X.stack k out s a gn s') :
    Inv X pins σ H s' ∧ Hold X pins H a s.heap.objs.size ∧ (∀ b u, H b = some u → b < s.heap.objs.size) := by
  have fresh : ∀ b, s.heap.objs.size ≤ b → H b = none := fun b hb => I.hok.fresh hb
  refine ⟨I.call' (ch := []) M.os (Un.kept M.keep) (I.hok.kept M.keep) M.bare (fun b hb => by cases hb), ?_, fun b u q => I.hok.lt q⟩
  refine ⟨I.fpOk (Nat.le_of_lt M.lt) (fresh _ (Nat.le_of_lt M.lt)), I.fpOk (Nat.le_refl _) (fresh _ (Nat.le_refl _)), M.lt, Nat.le_trans I.ok.bsz I.sz, I.sz, I.lt, fun b hb => ?_, fun x c hc => ?_, fun b u q hlt => ?_⟩
  · obtain ⟨_, o, e, _⟩ := I.stack.mem hb
    exact Heap.lt_size e
  · obtain ⟨v, q⟩ := I.cell x c hc
    exact q.lt
  · exact absurd (I.hok.lt q) (Nat.not_lt.mpr (Nat.le_of_lt hlt))
theorem run_gt {pins : List (Addr × Obj)} {σ : L2.St} {H : Hp} {s : Shared} {args : Args} {us : List Value} {vs : List V} {out : List (List V)} {cont : List (List V) → Hp → Prop} {E1 : Value → Shared → Prop} (F : GFnT X.prog X.w X.K X.mg X.base k f fd ps sp) (hr : Room 1 X.A)
    (I : Inv X pins σ H s) (hb : BindsTo s fd args (ps.zip us)) (r : Vals vs us) (h : sp vs out) (hc : cont out H) :
    wpAny (model X.prog X.w) X.A (call (.ref f) args.pos args.kw) (fun u s' => ∃ (a : Addr) (g : Nat) (L : Addr) (out : List (List V)) (H1 : Hp), u = .ref a ∧ Inv X pins σ H1 s' ∧ Hold X pins H1 a L ∧ (∀ b u, H1 b = some u → b < L) ∧ (∃ o, s'.heap.get? L = some o ∧ notCell o = true) ∧
      (∀ A' : Around, Room k A' → A'.frames = some X.stack → Live X.prog X.w X.base X.stack L out A' a g out.length s') ∧ cont out H1) E1 s := by
  refine wpAny_call (codeAny_mono (F.run X.A X.stack s H args us vs out hr I.env0 hb r h) fun r s' hq => ?_)
  obtain ⟨a, gn, rfl, M⟩ := hq
  obtain ⟨J, O, lo⟩ := made_inv I M
  exact ⟨a, gn, _, out, H, rfl, J, O, lo, M.loc, M.live, hc⟩
def tCallT (sp : List V → List (List V) → Prop) (t : TA) : TGT := fun σ H cont => t σ H fun vs H1 => ∃ out, sp vs out ∧ cont out H1
/-- f(e, ..) -/
theorem pgt_call (F : GFnT X.prog X.w X.K X.mg X.base k f fd ps sp) (hr : Room 1 X.A) (hg : Gl X x) (hm : X.mg x = some (.ref f)) (hk : PySem.W.keepIn X.K (.ref f) = true) (hb : Binds X.K fd ps []) (ha : PA X (e :: es) t)
    (hdb : (x == ("__debug__" : Str)) = false := by decide) (he : starEach (e :: es) X.env = (false, eval e X.env) :: starEach es X.env := by rfl) (hpl : (backTo pos (starEach es X.env)).any (·.1) = false := by rfl) :
    PGT X k (.Call (.Name x p) (e :: es) [] pos) (tCallT sp t) := by
  refine ⟨fun pins s σ H cont I h => wpAny_Call_Name_kw (ld_glob I hg hm (PySem.W.callWith_K (h₀ := X.base) I.ok.mod.kin hk (thn (ha.run pos pins s σ H _ I h) fun us s1 ⟨vs, H1, I1, r, out, q, hc⟩ => ⟨I1.kIn, ?_⟩) he hpl) hdb)⟩
  have hl : (us ++ []).length = ps.length := by
    rw [List.append_nil]
    exact r.length.symm.trans (F.len _ _ q)
  have b := hb s1 us I1.kIn hl
  rw [List.append_nil] at b
  exact run_gt (args := ⟨us, []⟩) F hr I1 b r q hc
/-- f(k = v, ..) -/
theorem pgt_callK (F : GFnT X.prog X.w X.K X.mg X.base k f fd ps sp) (hr : Room 1 X.A) (hg : Gl X x) (hm : X.mg x = some (.ref f)) (hk : PySem.W.keepIn X.K (.ref f) = true) (hb : KBinds X.K fd ps ks g gV) (hkw : PK X kws tkw)
    (hall : (backToKw pos (keywordEach kws X.env)).all (·.1.isSome) = true := by rfl) (hks : (backToKw pos (keywordEach kws X.env)).filterMap (·.1) = ks := by rfl) (hdb : (x == ("__debug__" : Str)) = false := by decide)
    (hpl : ((backTo pos (starEach [] X.env)).any (·.1) || (backToKw pos (keywordEach kws X.env)).any (·.1.isNone)) = false := by rfl) : PGT X k (.Call (.Name x p) [] kws pos) (fun σ H cont => tkw σ H fun zs H1 => ∃ out, sp (gV [] zs) out ∧ cont out H1) := by
  refine ⟨fun pins s σ H cont I h => wpAny_Call_Name_kw (ld_glob I hg hm (PySem.W.callWith_KW0 (h₀ := X.base) I.ok.mod.kin hk hall (thn (hkw.run pos pins s σ H _ I h) fun ws s1 ⟨zs, H1, I1, rz, out, q, hc⟩ => ⟨I1.kIn, ?_⟩) hpl) hdb)⟩
  rw [hks]
  have r2 := hb.rel (.nil : Vals [] []) rz
  have b := hb.to s1 [] ws I1.kIn (r2.length.symm.trans (F.len _ _ q))
  exact run_gt (args := ⟨[], ks.zip ws⟩) F hr I1 b r2 q hc
end
end GT

set_option Elab.async false
set_option linter.all false
set_option maxRecDepth 100000
set_option maxHeartbeats 1000000
/-! list(g), tuple(g) -/
namespace GT
open PySem PySem.Spec PyProof.Rows L2 GenW GL

/-- H has, beside H0, the tuples out at ts, and something at S -/
structure Grown (H0 : Hp) (S : Addr) (out : List (List V)) (H : Hp) (ts : List Addr) : Prop where
  old : ∀ b u, b ≠ S → H0 b = some u → H b = some u
  tup : ∀ (j : Nat) (t : Addr) (xs : List V), ts[j]? = some t → out[j]? = some xs → H t = some (.tup xs)
  new : ∀ t ∈ ts, H0 t = none
abbrev refs (ts : List Addr) : List V := ts.map V.ref
theorem refs_vals : ∀ {ts : List Addr} {its : List Value}, Vals (refs ts) its → its = ts.map Value.ref
  | [], _, .nil => rfl
  | t :: r, _, .cons h q => by
    have h : _ = Value.ref t := h
    rw [h, refs_vals q]
    rfl
theorem vals_refs : ∀ ts : List Addr, Vals (refs ts) (ts.map Value.ref)
  | [] => .nil
  | t :: r => .cons rfl (vals_refs r)

section
variable {X : Cx} {pins : List (Addr × Obj)} {σ : L2.St} {H H0 : Hp} {s s' : Shared} {a L S : Addr} {out : List (List V)} {A : Around} {g m k : Nat} {E : Value → Shared → Prop}
theorem Live.keep {P : Program} {w : World} {base : Heap} {outer : List Env} (Lv : Live P w base outer L out A a g m s) (hg : s'.gens = s.gens) (ha : ∀ o, s.heap.get? a = some o → s'.heap.get? a = some o) (hL : ∀ o, s.heap.get? L = some o → s'.heap.get? L = some o) :
    Live P w base outer L out A a g m s' := by
  obtain ⟨⟨o, nm, qn, e, r⟩, ⟨oL, eL, cL⟩, gs, hgs, go⟩ := Lv
  exact ⟨⟨o, nm, qn, ha o e, r⟩, ⟨oL, hL oL eL, cL⟩, gs, by rw [hg]; exact hgs, fun s2 h1 => go s2 fun o' e' => h1 o' (hL o' e')⟩
theorem Hold.upd {b : Addr} {u : HO} (O : Hold X pins H a L) (h1 : b ≠ a) (h2 : b ≠ L) (hu : SqO u) : Hold X pins (upd H b u) a L where
  fa := ⟨by rw [upd_ne h1.symm]; exact O.fa.1, O.fa.2⟩
  fL := ⟨by rw [upd_ne h2.symm]; exact O.fL.1, O.fL.2⟩
  lt := O.lt
  bsz := O.bsz
  old := O.old
  loc := O.loc
  frl := O.frl
  cel := O.cel
  hi := fun c v q z => by
    by_cases e : c = b
    · rw [e, upd_same] at q
      cases q
      exact hu
    · rw [upd_ne e] at q
      exact O.hi c v q z

theorem ext_loop {R : Result → Shared → Prop} {res : Value} (hh : A.handled = none) (hd : A.depth < recursionLimit) (hle : out.length ≤ sizeLine) (n0 : H0 S = none)
    (fin : ∀ s' H' ts', ts'.length = out.length → Inv X pins σ H' s' → H' S = some (.lst (refs ts')) → Grown H0 S out H' ts' → R (.ok (.ret res)) s') :
    ∀ (m : Nat) (s : Shared) (H : Hp) (ts : List Addr), ts.length + m = out.length → Inv X pins σ H s → Hold X pins H a L → H S = some (.lst (refs ts)) → Grown H0 S out H ts →
      Live X.prog X.w X.base X.stack L out A.in1.in1 a g m s → codeAny (model X.prog X.w) A (.builtin "list.extend.loop" ⟨[.ref S, .ref a, res], []⟩) R s := by
  intro m
  induction m with
  | zero =>
    intro s H ts hl I O hS G Lv
    refine codeAny_builtin F.entry_extend_loop (by
      rw [Around.under_plainId F.plain_extend_loop _]
      show wpAny _ A.in1 (pyNext (.ref a) >>= _) _ _ s
      refine wpAny_bind (thn (done_live (A := A.in1) hh hd I O Lv) fun r s1 hq => ?_)
      obtain ⟨rfl, J⟩ := hq
      exact wpAny_pure (fin s1 H ts (by omega) J hS G))
  | succ m ih =>
    intro s H ts hl I O hS G Lv
    refine codeAny_builtin F.entry_extend_loop (by
      rw [Around.under_plainId F.plain_extend_loop _]
      show wpAny _ A.in1 (pyNext (.ref a) >>= _) _ _ s
      have aLt : a < s.heap.objs.size := by
        obtain ⟨⟨o, _, _, e, _⟩, _⟩ := Lv
        exact Heap.lt_size e
      refine wpAny_bind (thn (next_live (A := A.in1) hh hd I O Lv) fun r s1 hq => ?_)
      obtain ⟨t, xs, rfl, hx, hle2, ht, J, Lv1⟩ := hq
      have hj : out.length - (m + 1) = ts.length := by omega
      rw [hj] at hx
      have tn : H t = none := I.hok.fresh ht
      have ta : t ≠ a := Nat.ne_of_gt (Nat.lt_of_lt_of_le aLt ht)
      have tL : t ≠ L := Nat.ne_of_gt (Nat.lt_of_lt_of_le (Nat.lt_trans O.lt aLt) ht)
      have O1 : Hold X pins (upd H t (.tup xs)) a L := O.upd ta tL (.inl ⟨xs, rfl⟩)
      have St : S ≠ t := ne_of_none hS tn
      have hS1 : (upd H t (.tup xs)) S = some (.lst (refs ts)) := by rw [upd_ne St]; exact hS
      have Sa : S ≠ a := ne_of_none hS O.fa.1
      have SL : S ≠ L := ne_of_none hS O.fL.1
      obtain ⟨z, its, n, rv, hli, e1⟩ := J.lstM hS1
      have hlen : its.length = ts.length := by rw [← hli]; simp
      show wpAny _ A.in1 (updateSeq S (·.push (.ref t)) >>= _) _ _ _
      refine wpAny_bind (wpAny_updateSeq e1 rfl (wpAny_pure ⟨plainId_quiet F.plain_extend_loop _, ?_⟩) (by show its.toArray.size ≤ sizeLine; rw [List.size_toArray]; omega) (by show (its.toArray.push _).size ≤ sizeLine + 1; rw [Array.size_push, List.size_toArray]; omega))
      have J2 := J.lset (f := (·.push (.ref t))) (its' := its ++ [.ref t]) (ys := refs (ts ++ [t])) (t' := s1.toks) hS1 e1 (by simp) (by
        show Vals ((ts ++ [t]).map V.ref) _
        rw [List.map_append]
        exact rv.append (.cons rfl .nil)) (by simp; omega)
      have o1 : ∀ b o, b ≠ S → s1.heap.get? b = some o → (s1.heap.update S (Obj.mapSeq (·.push (.ref t)))).get? b = some o := fun b o hb q => (Heap.get?_update_other _ _ (Ne.symm hb)).trans q
      refine ih _ _ (ts ++ [t]) (by simp; omega) J2 (O1.upd Sa SL (.inr ⟨_, rfl⟩)) upd_same ⟨fun b u hb q => ?_, fun j t' ys hj hy => ?_, fun t' hm => ?_⟩ (Lv1.keep rfl (fun o => o1 a o Sa.symm) fun o => o1 L o SL.symm)
      · rw [upd_ne hb, upd_ne (fun e => by
          have q2 := G.old b u hb q
          rw [e, tn] at q2
          cases q2)]
        exact G.old b u hb q
      · rcases Nat.lt_or_ge j ts.length with y | y
        · rw [List.getElem?_append_left y] at hj
          have q := G.tup j t' ys hj hy
          rw [upd_ne (fun e => by rw [e, hS] at q; cases q), upd_ne (ne_of_none q tn)]
          exact q
        · have hj0 : j = ts.length := by
            have := (List.getElem?_eq_some_iff.mp hj).1
            simp at this
            omega
          subst hj0
          rw [List.getElem?_append_right (Nat.le_refl _), Nat.sub_self] at hj
          have et : t = t' := by simpa using hj
          subst et
          rw [hx] at hy
          cases hy
          rw [upd_ne St.symm, upd_same]
      · rcases List.mem_append.mp hm with y | y
        · exact G.new t' y
        · have et : t' = t := by simpa using y
          subst et
          cases q : H0 t' with
          | none => rfl
          | some u =>
            have := G.old t' u St.symm q
            rw [tn] at this
            cases this)
end
end GT

set_option Elab.async false
set_option linter.all false
set_option maxRecDepth 100000
set_option maxHeartbeats 1000000
/-! list(g), tuple(g): the rules -/
namespace GT
open PySem PySem.Spec PyProof.Rows L2 GenW GL

section
variable {X : Cx} {pins : List (Addr × Obj)} {σ : L2.St} {H : Hp} {s : Shared} {a L : Addr} {out : List (List V)} {A : Around} {g k : Nat} {E : Value → Shared → Prop}
theorem gen_ty {h : Heap} (hg : h.IsGen a g) {s : Shared} (e : s.heap = h) : s.TypeIs (.ref a) "generator" := Heap.IsGen.typeIs (s := s) (by rw [e]; exact hg)
/-- the list at S is filled by the generator, under A.in1 -/
theorem fill {S : Addr} {R : Result → Shared → Prop} {res : Value} (hh : A.handled = none) (hd : A.depth < recursionLimit) (hle : out.length ≤ sizeLine) (n0 : H S = none) (Sa : S ≠ a) (SL : S ≠ L) (hsz : s.heap.objs.size ≤ S) {c : Nat} {h' : Heap} (kp : ∀ b o, s.heap.get? b = some o → h'.get? b = some o)
    (hS : h'.get? S = some { cls := .type "list", data := .seq #[] c }) (I : Inv X pins σ H s) (O : Hold X pins H a L) (Lv : Live X.prog X.w X.base X.stack L out A.in1.in1 a g out.length s)
    (fin : ∀ s' H' ts', ts'.length = out.length → Inv X pins σ H' s' → H' S = some (.lst (refs ts')) → Grown H S out H' ts' → R (.ok (.ret res)) s') :
    codeAny (model X.prog X.w) A (.builtin "list.extend.loop" ⟨[.ref S, .ref a, res], []⟩) R { s with heap := h' } := by
  have J : Inv X pins σ (upd H S (.lst [])) { s with heap := h' } := I.laid (o := .lst []) (t' := s.toks) kp hsz ⟨Nat.zero_le _, [], c, .nil, hS⟩
  refine ext_loop hh hd hle n0 fin out.length _ _ [] (Nat.zero_add _) J (O.upd Sa SL (.inr ⟨_, rfl⟩)) upd_same ⟨fun b u hb q => by rw [upd_ne hb]; exact q, fun j t xs hj => by simp at hj, fun t ht => by simp at ht⟩ (Lv.keep rfl (fun o => kp a o) fun o => kp L o)

theorem call_listT {Q' : Value → Shared → Prop} (hr : Room (k + 3) A) (hle : out.length ≤ sizeLine) (I : Inv X pins σ H s) (O : Hold X pins H a L) (hA : A.frames = some X.stack)
    (live : ∀ A' : Around, Room k A' → A'.frames = some X.stack → Live X.prog X.w X.base X.stack L out A' a g out.length s)
    (fin : ∀ S s' H' ts', H S = none → S ≠ sysModules → ts'.length = out.length → Inv X pins σ H' s' → H' S = some (.lst (refs ts')) → Grown H S out H' ts' → Q' (.ref S) s') : wpAny (model X.prog X.w) A (call (.type "list") [.ref a]) Q' E s := by
  have Lv := live A.in1.in1.in1 ⟨hr.hd, by have := hr.dp; show A.depth + 3 * k + 5 < _; omega, by have := hr.un; show A.units + 1 + 1 + 1 + 16 * k + 200 < _; omega⟩ hA
  have hg := Lv.1
  have aLt : a < s.heap.objs.size := let ⟨o, _, _, e, _⟩ := hg; Heap.lt_size e
  have Sa : s.heap.objs.size ≠ a := Nat.ne_of_gt aLt
  have SL : s.heap.objs.size ≠ L := Nat.ne_of_gt (Nat.lt_trans O.lt aLt)
  refine callType_codes (Q₁ := fun obj s₁ => obj = .ref s.heap.objs.size ∧ s₁ = { s with heap := s.heap.push { cls := .type "list", data := .seq #[] } }) F.called_list (F.typeCall_list_1 _) F.entry_list_init (code_list_new _ ⟨rfl, rfl⟩) fun obj s₁ h₁ => ?_
  obtain ⟨rfl, rfl⟩ := h₁
  have e1 : (s.heap.push { cls := .type "list", data := .seq #[] }).get? s.heap.objs.size = some { cls := .type "list", data := .seq #[] } := Heap.get?_push_size _ rfl
  refine ⟨⟨_, e1, rfl⟩, F.args_list_init_2 _ _, ?_⟩
  show wpAny _ A.in1.in1 (do let old ← Builtin.List.listItems (.ref s.heap.objs.size); Builtin.List.listUpdate (.ref s.heap.objs.size) (fun _ => #[]); letGo old.toList.reverse; Builtin.List.listExtendWith (.ref s.heap.objs.size) (.ref a) .none) _ _ _
  refine wpAny_bind ?_
  unfold Builtin.List.listItems -- none yet
  refine wpAny_bind (wpAny_seqItems e1 rfl (wpAny_pure ?_))
  show wpAny _ A.in1.in1 (updateSeq s.heap.objs.size (fun _ => #[]) >>= fun _ => letGo (#[] : Array Value).toList.reverse >>= fun _ => Builtin.List.listExtendWith (.ref s.heap.objs.size) (.ref a) .none) _ _ _
  refine wpAny_bind (wpAny_updateSeq e1 rfl ?_)
  have e2 := Heap.get?_update_self (Obj.mapSeq (fun _ => (#[] : Array Value))) e1 rfl
  have up : ∀ (h : Heap) (f : Obj → Obj), (∀ b o, s.heap.get? b = some o → h.get? b = some o) → ∀ b o, s.heap.get? b = some o → (h.update s.heap.objs.size f).get? b = some o := fun h f q b o e =>
    (Heap.get?_update_other _ _ (Nat.ne_of_gt (Heap.lt_size e))).trans (q b o e)
  have k1 : ∀ b o, s.heap.get? b = some o → (s.heap.push { cls := .type "list", data := .seq #[] }).get? b = some o := fun b o e => Heap.get?_push_of_some _ e
  have k2 := up _ (Obj.mapSeq (fun _ => (#[] : Array Value))) k1
  refine wpAny_bind (wpAny_letGo ?_)
  unfold Builtin.List.listExtendWith -- by what follows
  refine wpAny_bind (wpAny_typeOf (gen_ty (hg.keeps k2) rfl) ?_)
  have h1 : Builtin.List.listSameRef (.ref s.heap.objs.size) (.ref a) = false := by simp [Builtin.List.listSameRef, Sa]
  simp only [h1, show (Value.type "generator" == Value.type "list") = false by decide, show (Value.type "generator" == Value.type "tuple") = false by decide, Bool.or_false, Bool.false_eq_true, if_false]
  refine wpAny_bind (wpAny_pyIter_gen (s := { s with heap := _ }) (hg.keeps k2) (wpAny_bind (wpAny_holding ?_)))
  unfold Builtin.List.listLengthHint -- there is none
  refine wpAny_bind (wpAny_specialOf (gen_ty (hg.keeps k2) rfl) F.gen_no_len ?_)
  show wpAny _ A.in1.in1 (specialOf (Value.ref a) (Str.ofString "__length_hint__") >>= _) _ _ _
  refine wpAny_bind (wpAny_specialOf (gen_ty (hg.keeps k2) rfl) F.gen_no_hint (wpAny_pure ?_))
  show wpAny _ A.in1.in1 (rule "list.extend.makes-room" >>= fun _ => Builtin.List.listTouch (.ref s.heap.objs.size) >>= fun _ => again (.builtin "list.extend.loop" ⟨[.ref s.heap.objs.size, .ref a, .none], []⟩)) _ _ _
  refine wpAny_bind (wpAny_rule (wpAny_bind ?_))
  show wpAny _ A.in1.in1 (updateSeq s.heap.objs.size (·.push .none) >>= fun _ => updateSeq s.heap.objs.size (·.pop)) _ _ _
  refine wpAny_bind (wpAny_updateSeq e2 rfl ?_)
  have e3 := Heap.get?_update_self (Obj.mapSeq (·.push Value.none)) e2 rfl
  refine wpAny_updateSeq (hz := by seq_fits) e3 rfl (wpAny_pure ⟨plainId_quiet F.plain_extend_loop _, ?_⟩)
  have e4 := Heap.get?_update_self (Obj.mapSeq (·.pop)) e3 rfl
  have k4 := up _ (Obj.mapSeq (·.pop)) (up _ (Obj.mapSeq (·.push Value.none)) k2)
  refine fill (A := A.in1) hr.hd (by have := hr.dp; show A.depth < _; omega) hle (I.hok.fresh (Nat.le_refl _)) Sa SL (Nat.le_refl _) k4 e4 I O Lv fun s' H' ts' q1 q2 q3 q4 => ⟨rfl, fin _ s' H' ts' (I.hok.fresh (Nat.le_refl _)) (Nat.ne_of_gt I.big) q1 q2 q3 q4⟩
end
def tListT (tg : TGT) : TE := fun σ H Q => tg σ H fun out H1 => out.length ≤ sizeLine ∧ ∀ (S : Addr) (ts : List Addr) (H' : Hp), H1 S = none → S ≠ sysModules → ts.length = out.length → H' S = some (.lst (refs ts)) → Grown H1 S out H' ts → Q (.ref S) H'
section
variable {X : Cx} {k : Nat} {e : Expr} {tg : TGT} {nm : Str} {p pos : Pos}
/-- list(g) -/
theorem pe_listT (h : PGT X k e tg) (hr : Room (k + 3) X.A) (hg : Gl X nm) (hmg : X.mg nm = none) (hv : bootBuiltins nm = some (.type "list")) (hnm : nm ≠ "__name__" := by decide) (hdb : (nm == ("__debug__" : Str)) = false := by decide)
    (he : starEach [e] X.env = (false, eval e X.env) :: starEach [] X.env := by rfl) : PE X (.Call (.Name nm p) [e] [] pos) (tListT tg) := by
  refine ⟨fun pins s σ H Q I hq => wpAny_Call_Name_kw (ld_blt I hg hmg hv (PyProof.Rows.callWith_type1 (by
    rw [he]
    show wpAny _ _ (spliced ((false, eval e X.env) :: backTo pos (starEach [] X.env))) _ _ s
    refine Calls.spliced_cons (thn (h.run pins s σ H _ I hq) fun u s1 hz => Calls.spliced_nil ?_)
    obtain ⟨a, g, L, out, H1, rfl, I1, O, lo, _, live, hle, q⟩ := hz
    exact call_listT hr hle I1 O I1.ok.frames live fun S s' H' ts h0 hs h1 h2 h3 h4 => ⟨.ref S, H', h2, rfl, q S ts H' h0 hs h1 h3 h4⟩) he rfl) hnm hdb)⟩
end
end GT

set_option Elab.async false
set_option linter.all false
set_option maxRecDepth 100000
set_option maxHeartbeats 1000000
/-! tuple(g) -/
namespace GT
open PySem PySem.Spec PyProof.Rows L2 GenW GL

section
variable {X : Cx} {pins : List (Addr × Obj)} {σ : L2.St} {H : Hp} {s : Shared} {a L : Addr} {out : List (List V)} {A : Around} {g k : Nat} {E : Value → Shared → Prop}
/-- all that the generator hands out, under A; pyNext runs under A.in1.in1 -/
theorem collectT {Q : List Value → Shared → Prop} (hh : A.handled = none) (hd : A.depth < recursionLimit) (hle : out.length ≤ sizeLine) (I : Inv X pins σ H s) (O : Hold X pins H a L) (Lv : Live X.prog X.w X.base X.stack L out A.in1.in1 a g out.length s)
    (fin : ∀ S s' H' ts', H S = none → ts'.length = out.length → Inv X pins σ H' s' → H' S = some (.lst (refs ts')) → Grown H S out H' ts' → Q (ts'.map Value.ref) s') : wpAny (model X.prog X.w) A (collect (.ref a)) Q E s := by
  have hg := Lv.1
  have aLt : a < s.heap.objs.size := let ⟨o, _, _, e, _⟩ := hg; Heap.lt_size e
  have Sa : s.heap.objs.size ≠ a := Nat.ne_of_gt aLt
  have SL : s.heap.objs.size ≠ L := Nat.ne_of_gt (Nat.lt_trans O.lt aLt)
  have n0 : H s.heap.objs.size = none := I.hok.fresh (Nat.le_refl _)
  unfold collect
  refine wpAny_bind (wpAny_runValue (codeAny_builtin F.entry_proto_collect ?_))
  rw [Around.under_plainId F.plain_proto_collect _]
  show wpAny _ A.in1 (newList [] >>= fun l => again (.builtin "list.__iadd__" ⟨[l, .ref a], []⟩)) _ _ s
  refine wpAny_bind (wpAny_newObj_type (wpAny_pure ⟨plainId_quiet F.plain_list_iadd _, codeAny_builtin F.entry_list_iadd ?_⟩))
  rw [Around.under_plainId F.plain_list_iadd _]
  show wpAny _ A.in1 (Builtin.List.listExtendWith (.ref s.heap.objs.size) (.ref a) (.ref s.heap.objs.size)) _ _ _
  unfold Builtin.List.listExtendWith -- by what follows
  have e1 : (s.heap.push { cls := .type "list", data := .seq ([] : List Value).toArray }).get? s.heap.objs.size = some { cls := .type "list", data := .seq ([] : List Value).toArray } := Heap.get?_push_size _ rfl
  have k1 : ∀ b o, s.heap.get? b = some o → (s.heap.push { cls := .type "list", data := .seq ([] : List Value).toArray }).get? b = some o := fun b o e => Heap.get?_push_of_some _ e
  have up : ∀ (h : Heap) (f : Obj → Obj), (∀ b o, s.heap.get? b = some o → h.get? b = some o) → ∀ b o, s.heap.get? b = some o → (h.update s.heap.objs.size f).get? b = some o := fun h f q b o e =>
    (Heap.get?_update_other _ _ (Nat.ne_of_gt (Heap.lt_size e))).trans (q b o e)
  refine wpAny_bind (wpAny_typeOf (gen_ty (hg.keeps k1) rfl) ?_)
  have h1 : Builtin.List.listSameRef (.ref s.heap.objs.size) (.ref a) = false := by simp [Builtin.List.listSameRef, Sa]
  simp only [h1, show (Value.type "generator" == Value.type "list") = false by decide, show (Value.type "generator" == Value.type "tuple") = false by decide, Bool.or_false, Bool.false_eq_true, if_false]
  refine wpAny_bind (wpAny_pyIter_gen (s := { s with heap := _ }) (hg.keeps k1) (wpAny_bind (wpAny_holding ?_)))
  unfold Builtin.List.listLengthHint -- there is none
  refine wpAny_bind (wpAny_specialOf (gen_ty (hg.keeps k1) rfl) F.gen_no_len ?_)
  show wpAny _ A.in1 (specialOf (Value.ref a) (Str.ofString "__length_hint__") >>= _) _ _ _
  refine wpAny_bind (wpAny_specialOf (gen_ty (hg.keeps k1) rfl) F.gen_no_hint (wpAny_pure ?_))
  show wpAny _ A.in1 (rule "list.extend.makes-room" >>= fun _ => Builtin.List.listTouch (.ref s.heap.objs.size) >>= fun _ => again (.builtin "list.extend.loop" ⟨[.ref s.heap.objs.size, .ref a, .ref s.heap.objs.size], []⟩)) _ _ _
  refine wpAny_bind (wpAny_rule (wpAny_bind ?_))
  show wpAny _ A.in1 (updateSeq s.heap.objs.size (·.push .none) >>= fun _ => updateSeq s.heap.objs.size (·.pop)) _ _ _
  refine wpAny_bind (wpAny_updateSeq e1 rfl ?_)
  have e3 := Heap.get?_update_self (Obj.mapSeq (·.push Value.none)) e1 rfl
  refine wpAny_updateSeq (hz := by seq_fits) e3 rfl (wpAny_pure ⟨plainId_quiet F.plain_extend_loop _, ?_⟩)
  have e4 := Heap.get?_update_self (Obj.mapSeq (·.pop)) e3 rfl
  have k4 := up _ (Obj.mapSeq (·.pop)) (up _ (Obj.mapSeq (·.push Value.none)) k1)
  refine fill hh hd hle n0 Sa SL (Nat.le_refl _) k4 e4 I O Lv fun s' H' ts' q1 q2 q3 q4 => ?_
  obtain ⟨z, its, n, rv, hli, e5⟩ := q2.lstM q3
  show wpAny _ A (load s.heap.objs.size >>= _) _ _ s'
  refine wpAny_bind (wpAny_load e5 (wpAny_pure ?_))
  have := fin s.heap.objs.size s' H' ts' n0 q1 q2 q3 q4
  rw [← refs_vals rv] at this
  simpa using this

theorem call_tupleT {Q' : Value → Shared → Prop} (hr : Room (k + 4) A) (hle : out.length ≤ sizeLine) (I : Inv X pins σ H s) (O : Hold X pins H a L) (hA : A.frames = some X.stack)
    (live : ∀ A' : Around, Room k A' → A'.frames = some X.stack → Live X.prog X.w X.base X.stack L out A' a g out.length s)
    (fin : ∀ S T s' H' ts', H S = none → H' T = none → ts'.length = out.length → Inv X pins σ (upd H' T (.tup (refs ts'))) s' → Grown H S out H' ts' → Q' (.ref T) s') : wpAny (model X.prog X.w) A (call (.type "tuple") [.ref a]) Q' E s := by
  have Lv := live A.in1.in1.in1.in1 ⟨hr.hd, by have := hr.dp; show A.depth + 3 * k + 5 < _; omega, by have := hr.un; show A.units + 1 + 1 + 1 + 1 + 16 * k + 200 < _; omega⟩ hA
  have hty := gen_ty Lv.1 rfl
  refine callType_codes (Q₁ := fun obj s₁ => s₁.TypeIs obj "tuple" ∧ Q' obj s₁) F.called_tuple (F.typeCall_tuple_1 _) F.entry_object_init (codeAny_of_tree ?_) fun obj s₁ h₁ => ?_
  · show wpAny _ A.in1.in1 (do checkBuiltinCall "tuple.__new__" ⟨[.type "tuple", .ref a], []⟩; again (.builtin "tuple.__new__" ⟨[.type "tuple", .ref a], []⟩)) _ _ s
    refine wpAny_bind (wpAny_of_eq (F.newCall_tuple_1 _) (wpAny_pure ⟨plainId_quiet F.plain_tuple_new _, codeAny_builtin F.entry_tuple_new ?_⟩))
    rw [Around.under_plainId F.plain_tuple_new _]
    have hsub := sub_tuple_self
    have hinit := init_tuple_lookup
    have hmh := madeHere_tuple
    wp_walk using wpAny_typeOf hty, collectT (A := A.in1.in1) hr.hd hr.depth hle I O Lv
    intro S s' H' ts' h0 hlen J hS G
    show wpAny _ _ (Builtin.Tuple.tupleExact (ts'.map Value.ref).toArray >>= fun v => ret v) _ _ _
    unfold Builtin.Tuple.tupleExact -- a new tuple
    have sz : (refs ts').length ≤ sizeLine := by simp; omega
    refine wpAny_bind (wpAny_newObj_type (wpAny_pure ?_) (by show (ts'.map Value.ref).toArray.size ≤ sizeLine; simp; omega))
    have J2 := J.laid (o := .tup (refs ts')) (h' := s'.heap.push { cls := .type "tuple", data := .seq (ts'.map Value.ref).toArray }) (t' := s'.toks) (fun b u e => Heap.get?_push_of_some _ e) (Nat.le_refl _) ⟨sz, ts'.map Value.ref, vals_refs ts', ⟨_, Heap.get?_push_size _ rfl, rfl, _, rfl⟩⟩
    exact ⟨⟨_, Heap.get?_push_size _ rfl, rfl⟩, fin S _ _ H' ts' h0 (J.hok.fresh (Nat.le_refl _)) hlen J2 G⟩
  · exact ⟨h₁.1, F.args_object_init_2 obj _, object_init_meets F.called_tuple.init.lookup F.called_tuple.made (by decide) X.prog X.w A.in1 _ s₁ ⟨h₁.1, rfl, h₁.2⟩⟩
end
def tTupT (tg : TGT) : TE := fun σ H Q => tg σ H fun out H1 => out.length ≤ sizeLine ∧ ∀ (S T : Addr) (ts : List Addr) (H' : Hp), H1 S = none → H' T = none → ts.length = out.length → Grown H1 S out H' ts → Q (.ref T) (upd H' T (.tup (refs ts)))
section
variable {X : Cx} {k : Nat} {e : Expr} {tg : TGT} {nm : Str} {p pos : Pos}
/-- tuple(g) -/
theorem pe_tupT (h : PGT X k e tg) (hr : Room (k + 4) X.A) (hg : Gl X nm) (hmg : X.mg nm = none) (hv : bootBuiltins nm = some (.type "tuple")) (hnm : nm ≠ "__name__" := by decide) (hdb : (nm == ("__debug__" : Str)) = false := by decide)
    (he : starEach [e] X.env = (false, eval e X.env) :: starEach [] X.env := by rfl) : PE X (.Call (.Name nm p) [e] [] pos) (tTupT tg) := by
  refine ⟨fun pins s σ H Q I hq => wpAny_Call_Name_kw (ld_blt I hg hmg hv (PyProof.Rows.callWith_type1 (by
    rw [he]
    show wpAny _ _ (spliced ((false, eval e X.env) :: backTo pos (starEach [] X.env))) _ _ s
    refine Calls.spliced_cons (thn (h.run pins s σ H _ I hq) fun u s1 hz => Calls.spliced_nil ?_)
    obtain ⟨a, g, L, out, H1, rfl, I1, O, lo, _, live, hle, q⟩ := hz
    exact call_tupleT hr hle I1 O I1.ok.frames live fun S T s' H' ts h0 h1 h2 h3 h4 => ⟨.ref T, _, h3, rfl, q S T ts H' h0 h1 h2 h4⟩) he rfl) hnm hdb)⟩
end
end GT

set_option Elab.async false
set_option linter.all false
set_option maxRecDepth 100000
set_option maxHeartbeats 1000000
/-! for x in g: if len(xs) == n: break; xs.append(x) -/
namespace GT
open PySem PySem.Spec PyProof.Rows L2 GenW GL

section
variable {X : Cx} {pins : List (Addr × Obj)} {σ : L2.St} {H : Hp} {s : Shared} {E : Value → Shared → Prop}
/-- a local name's value -/
theorem ld_slot {i : Nat} {x : Str} {v : V} {pos : Pos} {Q : Value → Shared → Prop} (I : Inv X pins σ H s) (hN : X.N[i]? = some x) (hk : X.env.scope.names.lookup x = some .local) (e : σ[i]? = some (some v)) (h : ∀ u, RelV v u → Q u s) (hd : (x == ("__debug__" : Str)) = false := by decide) :
    wpAny (model X.prog X.w) X.A (eval (.Name x pos) X.env) Q E s := by
  obtain ⟨m, hn, hl⟩ := I.loc
  obtain ⟨u, r, l⟩ := hl i x v hN e (.inl hk)
  rcases l with ⟨_, hm⟩ | ⟨z | z, _⟩
  · exact wpAny_Name (wpAny_loadName_local I.ok.kind hk hn hm (h u r)) hd
  · have z : X.env.scope.names.lookup x = some .cell := z
    rw [hk] at z
    cases z
  · have z : X.env.scope.names.lookup x = some .free := z
    rw [hk] at z
    cases z
/-- a local name is stored -/
theorem st_slot {i : Nat} {x : Str} {v : V} {u : Value} {pos : Pos} {Q : Unit → Shared → Prop} (I : Inv X pins σ H s) (nd : X.N.Nodup) (hN : X.N[i]? = some x) (hk : X.env.scope.names.lookup x = some .local) (r : RelV v u)
    (h : ∀ s', s'.gens = s.gens → Inv X pins (σ.set i (some v)) H s' → Q () s') : wpAny (model X.prog X.w) X.A (assign (.Name x pos) X.env u) Q E s := by
  obtain ⟨m, hn, hl⟩ := id I.loc
  have hcl : (X.env.scope.kind == .class || (X.env.scope.kind == .module && X.env.locals != X.env.globals)) = false := by rw [I.ok.kind]; rfl
  refine wpAny_assign_Name (wpAny_storeName_local hk hn (fun h' hn' hs => ?_) hcl)
  obtain ⟨oL, _, _, hoL, _⟩ := id hn
  have old : ∀ b o, X.s_0.heap.get? b = some o → b ≠ X.env.locals := fun b o e => Nat.ne_of_lt (Nat.lt_of_lt_of_le (Heap.lt_size e) I.ok.above)
  have oth : ∀ b o, b ≠ X.env.locals → s.heap.get? b = some o → h'.get? b = some o := fun b o hb e => (hs.2 b hb).trans e
  refine h { s with heap := h', toks := s.toks + 1 } rfl ⟨I.ok, I.os, I.bare, ⟨fun b o e n hb hx => oth b o (old b o e) (I.base.keep b o e n hb hx), fun b o e n hb hx => ?_, I.base.free, fun b o e hx => ?_, I.base.tups, I.base.frzs, I.base.tbls⟩, ⟨_, hn', fun j y v' e1 e2 e3 => ?_⟩, fun y c e => ?_, I.free, I.freeC, fun p hp => ?_, fun b ob e => ?_, by simpa using I.len⟩
  · obtain ⟨sl, e1⟩ := I.base.slot b o e n hb hx
    exact ⟨sl, oth b _ (old b o e) e1⟩
  · obtain ⟨o', e1⟩ := I.base.there b o e hx
    exact ⟨o', oth b _ (old b o e) e1⟩
  · by_cases hj : j = i
    · subst hj
      have exy : y = x := Option.some.inj (e1.symm.trans hN)
      subst exy
      rw [List.getElem?_set_self (by rw [I.len]; exact (List.getElem?_eq_some_iff.mp hN).1)] at e2
      cases e2
      exact ⟨u, r, .inl ⟨hk, by simp⟩⟩
    · rw [List.getElem?_set_ne (Ne.symm hj)] at e2
      obtain ⟨u', r', q⟩ := hl j y v' e1 e2 e3
      refine ⟨u', r', ?_⟩
      rcases q with ⟨k, e⟩ | ⟨k, c, e, z⟩
      · have ne : y ≠ x := fun e => hj (nodup_ix nd e1 (e ▸ hN))
        exact .inl ⟨k, by simp [ne, e]⟩
      · exact .inr ⟨k, c, e, z.sameBut hs (I.cne y c e)⟩
  · obtain ⟨w', z⟩ := I.cell y c e
    exact ⟨w', z.sameBut hs (I.cne y c e)⟩
  · obtain ⟨e, n, ne, nf, d⟩ := I.pin p hp
    exact ⟨oth _ _ ne e, n, ne, nf, d⟩
  · refine (I.hok b ob e).stay (fun c w' hc q => oth c w' (fun z => ?_) q) (fun _ q => q) fun _ _ q => q
    have fr := I.free
    rcases hc with y | y
    · rw [← y, z, fr] at e
      cases e
    · rw [z, fr] at y
      cases y

variable {iF iM iP : Nat} {xF xM xP : Str} {l : Addr} {ys : List V} {n : Int} {v : V}
/-- len(xs) -/
theorem q_len {p1 p2 p3 : Pos} (I : Inv X pins σ H s) (hF : X.N[iF]? = some xF) (kF : X.env.scope.names.lookup xF = some .local) (vF : σ[iF]? = some (some (.ref l))) (hl : H l = some (.lst ys)) (gl : Gl X "len") (ml : X.mg "len" = none) (dF : (xF == ("__debug__" : Str)) = false)
    (hst : starEach [.Name xF p1] X.env = (false, eval (.Name xF p1) X.env) :: starEach [] X.env) {Q : Value → Shared → Prop} (q : ∀ s' t, s'.gens = s.gens → Inv X pins σ H s' → Q (.int ys.length t) s') :
    wpAny (model X.prog X.w) X.A (eval (.Call (.Name "len" p2) [.Name xF p1] [] p3) X.env) Q E s := by
  have n63 := line63
  refine wpAny_Call_Name_kw (ld_blt I gl ml PySem.boot_len (PyProof.Rows.callWith_builtin1 ?_ hst rfl))
  rw [hst]
  show wpAny _ _ (spliced ((false, eval (.Name xF p1) X.env) :: backTo p3 (starEach [] X.env))) _ _ s
  refine Calls.spliced_cons (ld_slot I hF kF vF (fun u ru => Calls.spliced_nil ?_) dF)
  obtain rfl : u = Value.ref l := ru
  obtain ⟨its, r', pl, hz⟩ := I.list (SqL.of hl)
  have hlen := r'.length
  refine Calls.call_len_list pl.isList (by simp only [List.size_toArray] <;> omega) ?_
  rw [List.size_toArray, ← hlen]
  exact q _ _ rfl (I.tok _)
/-- len(xs) == n -/
theorem q_test {p1 p2 p3 p4 p5 : Pos} (I : Inv X pins σ H s) (hF : X.N[iF]? = some xF) (kF : X.env.scope.names.lookup xF = some .local) (hM : X.N[iM]? = some xM) (kM : X.env.scope.names.lookup xM = some .local) (vF : σ[iF]? = some (some (.ref l))) (vM : σ[iM]? = some (some (.int n)))
    (hl : H l = some (.lst ys)) (gl : Gl X "len") (ml : X.mg "len" = none) (dF : (xF == ("__debug__" : Str)) = false) (dM : (xM == ("__debug__" : Str)) = false)
    (hst : starEach [.Name xF p1] X.env = (false, eval (.Name xF p1) X.env) :: starEach [] X.env) {Q : Bool → Shared → Prop} (q : ∀ s', s'.gens = s.gens → Inv X pins σ H s' → Q (decide ((ys.length : Int) = n)) s') :
    wpAny (model X.prog X.w) X.A (isTrue (.Compare (.Call (.Name "len" p2) [.Name xF p1] [] p3) [.Eq] [.Name xM p4] p5) X.env (eval (.Compare (.Call (.Name "len" p2) [.Name xF p1] [] p3) [.Eq] [.Name xM p4] p5) X.env)) Q E s := by
  refine wpAny_isTrue_Compare1 (q_len I hF kF vF hl gl ml dF hst fun s1 t g1 I1 => ld_slot I1 hM kM vM (fun u ru => ?_) dM) (nomark _)
  obtain ⟨t', rfl⟩ := ru
  exact eq_int (wpAny_truthy_bool (q s1 g1 I1))
/-- xs.append(x) -/
theorem q_app {p6 p7 p8 p9 pa : Pos} (I : Inv X pins σ H s) (hF : X.N[iF]? = some xF) (kF : X.env.scope.names.lookup xF = some .local) (hP : X.N[iP]? = some xP) (kP : X.env.scope.names.lookup xP = some .local)
    (vF : σ[iF]? = some (some (.ref l))) (vP : σ[iP]? = some (some v)) (hl : H l = some (.lst ys)) (hsz : ys.length < sizeLine) (dF : (xF == ("__debug__" : Str)) = false) (dP : (xP == ("__debug__" : Str)) = false) (hline : (p7.endLine == p9.line) = true)
    (hst : starEach [.Name xP p8] X.env = (false, eval (.Name xP p8) X.env) :: starEach [] X.env) (hbase : attributeBase (.Name xF p6) "append" X.env (eval (.Name xF p6) X.env) = eval (.Name xF p6) X.env)
    (hfew : ((backTo p9 (starEach [.Name xP p8] X.env)).all (fun x => !x.1) && (backToKw p9 (keywordEach [] X.env)).all (fun x => x.1.isSome) && decide (([Expr.Name xP p8]).length + ([] : List Keyword).length + (if ([] : List Keyword).isEmpty then 0 else 1) < 30)) = true)
    (hsw : swapsWith (.Call (.Attribute (.Name xF p6) "append" p7) [.Name xP p8] [] p9) none pa.line X.env = pure false) {Q : Flow → Shared → Prop} (q : ∀ s', s'.gens = s.gens → Inv X pins σ (upd H l (.lst (ys ++ [v]))) s' → Q .next s') :
    wpAny (model X.prog X.w) X.A (exec (.Expr (.Call (.Attribute (.Name xF p6) "append" p7) [.Name xP p8] [] p9) pa) X.env) Q E s := by
  refine wpAny_Expr_any (wpAny_Call_method_late hbase hfew hline rfl (ld_slot I hF kF vF (fun u ru => ?_) dF)) I.quiet hsw
  obtain rfl : u = Value.ref l := ru
  obtain ⟨z, its, c, r, hli, e⟩ := I.lstM hl
  refine ⟨"list", "list.append", PySem.F.plainAttrs_list, PySem.F.slot_list_append, PySem.F.type_list_append, ⟨_, e, rfl⟩, fun b hb => ?_, ?_⟩
  · cases hb
    exact ⟨_, e, rfl⟩
  rw [hst]
  refine Calls.callWith_builtin rfl (Calls.evalArgs_plain ?_)
  show wpAny _ _ (spliced ((false, eval (.Name xP p8) X.env) :: backTo p9 (starEach [] X.env))) _ _ s
  refine Calls.spliced_cons (ld_slot I hP kP vP (fun u ru => Calls.spliced_nil ?_) dP)
  refine call_meets F.slot_list_append ⟨_, e, rfl⟩ F.entry_list_append (F.args_list_append_2 _ _) (PySem.list_append l its.toArray c u (by rw [List.size_toArray]; omega)) ⟨e, ?_⟩
  exact q _ rfl (I.lset (its' := its ++ [u]) hl e (by simp) (r.append (.cons ru .nil)) (by simp; omega))
end
end GT

set_option Elab.async false
set_option linter.all false
set_option maxRecDepth 100000
set_option maxHeartbeats 1000000
/-! for x in g: if len(xs) == n: break; xs.append(x): the rule -/
namespace GT
open PySem PySem.Spec PyProof.Rows L2 GenW GL

/-- the loop reads the first n items into the list at slot iF -/
def tForT (iF iM iP : Nat) (tg : TGT) : TS := fun D σ H => tg σ H fun out H1 => ∃ (l : Addr) (n : Nat), σ[iF]? = some (some (.ref l)) ∧ σ[iM]? = some (some (.int n)) ∧ H1 l = some (.lst []) ∧ out.length < sizeLine ∧ n ≤ out.length ∧
  ∀ (σ' : L2.St) (H' : Hp) (ts : List Addr), (σ' = σ ∨ ∃ x, σ' = σ.set iP (some x)) → ts.length = n → H' l = some (.lst (refs ts)) → Grown H1 l out H' ts → D.nx σ' H'
section
variable {X : Cx} {k : Nat} {e : Expr} {tg : TGT} {iF iM iP : Nat} {xF xM xP : Str} {p1 p2 p3 p4 p5 p6 p7 p8 p9 pa pb pc pd pos : Pos}
theorem ps_forT (hp : PassesOwn (model X.prog X.w) X.A X.env X.xe) (hg : PGT X k e tg) (hr : Room (k + 1) X.A) (hc : X.calm = true) (nd : X.N.Nodup) (hF : X.N[iF]? = some xF) (kF : X.env.scope.names.lookup xF = some .local) (hM : X.N[iM]? = some xM) (kM : X.env.scope.names.lookup xM = some .local)
    (hP : X.N[iP]? = some xP) (kP : X.env.scope.names.lookup xP = some .local) (n1 : iP ≠ iF) (n2 : iP ≠ iM) (gl : Gl X "len") (ml : X.mg "len" = none)
    (dF : (xF == ("__debug__" : Str)) = false := by decide) (dM : (xM == ("__debug__" : Str)) = false := by decide) (dP : (xP == ("__debug__" : Str)) = false := by decide) (hline : (p7.endLine == p9.line) = true := by rfl)
    (hst1 : starEach [.Name xF p1] X.env = (false, eval (.Name xF p1) X.env) :: starEach [] X.env := by rfl) (hst2 : starEach [.Name xP p8] X.env = (false, eval (.Name xP p8) X.env) :: starEach [] X.env := by rfl)
    (hbase : attributeBase (.Name xF p6) "append" X.env (eval (.Name xF p6) X.env) = eval (.Name xF p6) X.env := by rfl)
    (hfew : ((backTo p9 (starEach [.Name xP p8] X.env)).all (fun x => !x.1) && (backToKw p9 (keywordEach [] X.env)).all (fun x => x.1.isSome) && decide (([Expr.Name xP p8]).length + ([] : List Keyword).length + (if ([] : List Keyword).isEmpty then 0 else 1) < 30)) = true := by rfl)
    (hsw : swapsWith (.Call (.Attribute (.Name xF p6) "append" p7) [.Name xP p8] [] p9) none pa.line X.env = pure false := by rfl) (hs : ∀ x, foldedSetIterable e X.env x = pure x := by intro _; rfl) :
    PS X (.For (.Name xP pd) e [.If (.Compare (.Call (.Name "len" p2) [.Name xF p1] [] p3) [.Eq] [.Name xM p4] p5) [.Break pb] [] pc, .Expr (.Call (.Attribute (.Name xF p6) "append" p7) [.Name xP p8] [] p9) pa] [] pos) (tForT iF iM iP tg) := by
  refine ⟨fun pins s σ H D I h => wpAny_For (thn (hg.run pins s σ H _ I h) fun u s1 hz => ?_) hs⟩
  obtain ⟨a, g, L, out, H1, rfl, I1, O, lo, ⟨oL, eL, cL⟩, live, l, n, vF, vM, hl, hsz, hn, fin⟩ := hz
  have Lv := live X.A.in1 hr.in1 I1.ok.frames
  refine wpAny_pyIter_gen Lv.1 ?_
  have iPl : iP < σ.length := by rw [I1.len]; exact (List.getElem?_eq_some_iff.mp hP).1
  refine codeAny_forLoop_any (fun m s' => ∃ σ' H' ts, m = out.length - ts.length ∧ ts.length ≤ n ∧ (σ' = σ ∨ ∃ x, σ' = σ.set iP (some x)) ∧ Inv X pins σ' H' s' ∧ Hold X pins H' a L ∧ H' l = some (.lst (refs ts)) ∧ Grown H1 l out H' ts ∧
    Live X.prog X.w X.base X.stack L out X.A.in1 a g (out.length - ts.length) s') ?_ out.length ⟨σ, H1, [], rfl, Nat.zero_le _, .inl rfl, I1, O, hl, ⟨fun b u _ q => q, fun j t xs hj => by simp at hj, fun t ht => by simp at ht⟩, Lv⟩
  rintro m s3 ⟨σ3, H3, ts, rfl, hts, hσ, I3, O3, hl3, G3, Lv3⟩
  have vF3 : σ3[iF]? = some (some (.ref l)) := by
    rcases hσ with z | ⟨x, z⟩
    · rw [z]; exact vF
    · rw [z, List.getElem?_set_ne n1]; exact vF
  have vM3 : σ3[iM]? = some (some (.int n)) := by
    rcases hσ with z | ⟨x, z⟩
    · rw [z]; exact vM
    · rw [z, List.getElem?_set_ne n2]; exact vM
  have hd : X.A.depth < recursionLimit := hr.depth
  by_cases hend : out.length - ts.length = 0
  · rw [hend] at Lv3
    refine wpAny_passesOwn hp (thn (done_live hr.hd hd I3 O3 Lv3) fun r s4 hq => ?_)
    obtain ⟨rfl, J⟩ := hq
    exact wpAny_execs_nil ⟨σ3, H3, J, fin σ3 H3 ts hσ (by omega) hl3 G3⟩
  · obtain ⟨m, hm⟩ : ∃ m, out.length - ts.length = m + 1 := ⟨out.length - ts.length - 1, by omega⟩
    rw [hm] at Lv3
    have aLt : a < s3.heap.objs.size := let ⟨⟨o, _, _, e, _⟩, _⟩ := Lv3; Heap.lt_size e
    refine wpAny_passesOwn hp (thn (next_live hr.hd hd I3 O3 Lv3) fun r s4 hq => ?_)
    obtain ⟨t, xs, rfl, hx, hle2, ht, J, Lv4⟩ := hq
    rw [show out.length - (m + 1) = ts.length by omega] at hx
    have tn : H3 t = none := I3.hok.fresh ht
    have ta : t ≠ a := Nat.ne_of_gt (Nat.lt_of_lt_of_le aLt ht)
    have tL : t ≠ L := Nat.ne_of_gt (Nat.lt_of_lt_of_le (Nat.lt_trans O3.lt aLt) ht)
    have O4 : Hold X pins (upd H3 t (.tup xs)) a L := O3.upd ta tL (.inl ⟨xs, rfl⟩)
    have lt' : l ≠ t := ne_of_none hl3 tn
    have hl4 : (upd H3 t (.tup xs)) l = some (.lst (refs ts)) := by rw [upd_ne lt']; exact hl3
    have la : l ≠ a := ne_of_none hl3 O3.fa.1
    have lL : l ≠ L := ne_of_none hl3 O3.fL.1
    have G4 : Grown H1 l out (upd H3 t (.tup xs)) ts := ⟨fun b u hb q => by rw [upd_ne (ne_of_none (G3.old b u hb q) tn)]; exact G3.old b u hb q, fun j t' ys hj hy => by rw [upd_ne (ne_of_none (G3.tup j t' ys hj hy) tn)]; exact G3.tup j t' ys hj hy, G3.new⟩
    obtain ⟨og, nm, qn, eg, hgc, hgd, hgs⟩ := id Lv4.1
    refine wpAny_passesOwn hp (go_of (it := a) (tg := .Name xP pd) (n := "generator") eg hgc hgd (by decide) ?_)
    -- the frame and the generator are pinned while the body runs
    obtain ⟨oL4, eL4, cL4⟩ := id Lv4.2.1
    have J5 : Inv X (pins ++ [(a, og), (L, oL4)]) σ3 (upd H3 t (.tup xs)) s4 := J.pins_of fun p hp => by
      rcases List.mem_append.mp hp with z | z
      · exact J.pin p (List.mem_append_right _ z)
      · rcases List.mem_cons.mp z with z | z
        · rw [z]
          exact ⟨eg, O4.fa.1, O4.fa.2.1, O4.fa.2.2.1, fun v q => by rw [hgd] at q; cases q⟩
        · have z := List.mem_singleton.mp z
          rw [z]
          exact ⟨eL4, O4.fL.1, O4.fL.2.1, O4.fL.2.2.1, notCell_iff.mp cL4⟩
    refine wpAny_passesOwn hp (st_slot J5 nd hP kP (v := .ref t) rfl fun s5 g5 I5 => ?_)
    have vF5 : (σ3.set iP (some (.ref t)))[iF]? = some (some (.ref l)) := by rw [List.getElem?_set_ne n1]; exact vF3
    have vM5 : (σ3.set iP (some (.ref t)))[iM]? = some (some (.int n)) := by rw [List.getElem?_set_ne n2]; exact vM3
    have vP5 : (σ3.set iP (some (.ref t)))[iP]? = some (some (.ref t)) := List.getElem?_set_self (by rw [I3.len]; exact (List.getElem?_eq_some_iff.mp hP).1)
    have hσ5 : σ3.set iP (some (.ref t)) = σ ∨ ∃ x, σ3.set iP (some (.ref t)) = σ.set iP (some x) := by
      refine .inr ⟨.ref t, ?_⟩
      rcases hσ with z | ⟨x, z⟩
      · rw [z]
      · rw [z, List.set_set]
    refine wpAny_passesOwn hp (wpAny_execs_cons (wpAny_If (q_test I5 hF kF hM kM vF5 vM5 hl4 gl ml dF dM hst1 fun s6 g6 I6 => ?_)))
    by_cases hlen : ((refs ts).length : Int) = n
    · rw [decide_eq_true hlen]
      have hlen' : ts.length = n := by
        rw [List.length_map] at hlen
        omega
      exact wpAny_execs_cons (wpAny_Break ⟨_, _, I6.unpinned, fin _ _ ts hσ5 hlen' hl4 G4⟩)
    · rw [decide_eq_false hlen]
      have hlen' : ts.length ≠ n := by
        rw [List.length_map] at hlen
        omega
      refine wpAny_execs_nil (wpAny_execs_cons (q_app I6 hF kF hP kP vF5 vP5 hl4 (by simp; omega) dF dP hline hst2 hbase hfew hsw fun s7 g7 I7 => wpAny_execs_nil ?_))
      refine ⟨out.length - (ts ++ [t]).length, by simp; omega, _, _, ts ++ [t], rfl, by simp; omega, hσ5, I7.unpinned, O4.upd la lL (.inr ⟨_, rfl⟩), ?_, ⟨fun b u hb q => ?_, fun j t' ys hj hy => ?_, fun t' hm => ?_⟩, ?_⟩
      · rw [upd_same]
        simp
      · rw [upd_ne hb]
        exact G4.old b u hb q
      · rcases Nat.lt_or_ge j ts.length with y | y
        · rw [List.getElem?_append_left y] at hj
          have q := G4.tup j t' ys hj hy
          rw [upd_ne (fun e => by rw [e, hl4] at q; cases q)]
          exact q
        · have hj0 : j = ts.length := by
            have := (List.getElem?_eq_some_iff.mp hj).1
            simp at this
            omega
          subst hj0
          rw [List.getElem?_append_right (Nat.le_refl _), Nat.sub_self] at hj
          have et : t = t' := by simpa using hj
          subst et
          rw [hx] at hy
          cases hy
          rw [upd_ne lt'.symm, upd_same]
      · rcases List.mem_append.mp hm with y | y
        · exact G4.new t' y
        · have et : t' = t := by simpa using y
          subst et
          cases q : H1 t' with
          | none => rfl
          | some u =>
            have := G3.old t' u lt'.symm q
            rw [tn] at this
            cases this
      · rw [show out.length - (ts ++ [t]).length = m by simp; omega]
        refine Lv4.keep (by rw [g7, g6, g5]) (fun o e => ?_) fun o e => ?_
        · rw [eg] at e
          cases e
          exact (I7.pin (a, og) (by simp)).1
        · rw [eL4] at e
          cases e
          exact (I7.pin (L, oL4) (by simp)).1
end
end GT

set_option Elab.async false
set_option linter.all false
set_option maxRecDepth 100000
set_option maxHeartbeats 4000000
/-! tokens: the generator -/
namespace M02
open PySem PySem.Spec PyProof.Rows L2 GL GT
theorem scTK : GScope ["text", "at", "end"] ["text"] (defScope sTokens) := ⟨rfl, rfl, rfl, by decide +kernel, rfl, by decide +kernel, by decide +kernel⟩
/-- the pairs as they are handed out -/
def outV (ps : List (Nat × Cd)) : List (List V) := ps.map fun p => [.int p.1, .str (S p.2)]
def en (ps : List (Nat × Cd)) (i : Nat) : Nat := (ps[i]?.map fun p => p.1 + p.2.length).getD 0
def sT (T : Cd) (ps : List (Nat × Cd)) (i : Nat) : L2.St := [some (.str (S T)), some (.int (pos T ps i)), if i = 0 then none else some (.int (en ps (i - 1)))]
def sT1 (T : Cd) (ps : List (Nat × Cd)) (i : Nat) : L2.St := [some (.str (S T)), some (.int (pos T ps i)), some (.int (en ps i))]
section
variable {P : Program} {w : World} {K : PySem.W.Frag} {mg : Str → Option Value} {base : Heap}
def spTok : List V → List (List V) → Prop := fun vs out => ∃ (T : Cd) (ps : List (Nat × Cd)), vs = [.str (S T)] ∧ T.length ≤ 1000000 ∧ Lx 0 T ps ∧ out = outV ps
theorem ok_tokens {f : Addr} {fd : FuncData} (F : Fun K "tokens" "tokens" sTokens f fd) (T : Bl K mg) (d_behind_gap : DnO P w K mg base "behind_gap" 1 ["text", "start"] spGap) (d_token_end : DnO P w K mg base "token_end" 2 ["text", "start"] spTE) : GFnT P w K mg base 3 f fd ["text"] spTok := by
  have nf : ∀ y ∈ (defScope sTokens).names, y.2 ≠ .cell ∧ y.2 ≠ .free := by decide +kernel
  refine gfn_tup (k := 2) F scTK rfl (fun L => rfl) (fun x => ⟨fun h => (nf _ (PySem.mem_of_lookup h)).1 rfl, fun h => (nf _ (PySem.mem_of_lookup h)).2 rfl⟩) (fun vs out h => ?_) fun cdv A outer L vs out hr h => ?_
  · obtain ⟨_, _, rfl, _⟩ := h
    rfl
  · obtain ⟨T', ps, rfl, hT, hx, rfl⟩ := h
    have lT : (S T').length = T'.length := len_S T'
    have szT : (S T').length ≤ sizeLine := by rw [lT]; exact big_le hT
    obtain ⟨k0, hg0, hts⟩ := lx_ts (T := T') hx (Nat.zero_le _) rfl
    rw [Nat.zero_add] at hts
    have hlen : (outV ps).length = ps.length := by simp [outV]
    have item : ∀ i, i < (outV ps).length → ∃ m t, ps[i]? = some (m, t) ∧ pos T' ps i = m ∧ en ps i = m + t.length := fun i hi => by
      rw [hlen] at hi
      refine ⟨ps[i].1, ps[i].2, List.getElem?_eq_getElem hi, ?_, ?_⟩
      · unfold pos
        rw [List.getElem?_eq_getElem hi]
        rfl
      · unfold en
        rw [List.getElem?_eq_getElem hi]
        rfl
    have hpos : ∀ i, i ≤ ps.length → pos T' ps i ≤ T'.length ∧ (i < ps.length → pos T' ps i < T'.length) := fun i hi => by
      rcases Nat.lt_or_ge i ps.length with z | z
      · obtain ⟨m, t, h1, h2, _⟩ := item i (by rw [hlen]; exact z)
        obtain ⟨r, k, e, ht, _, _, _, h6⟩ := ts_at hts i m t h1
        have : 0 < t.length := List.length_pos_iff.mpr ht.ne
        exact ⟨by omega, fun _ => by omega⟩
      · refine ⟨?_, fun h => by omega⟩
        unfold pos
        rw [List.getElem?_eq_none z]
        exact Nat.le_refl _
    have hend : ∀ i, ps.length ≤ i → pos T' ps i = T'.length := fun i hi => by
      unfold pos
      rw [List.getElem?_eq_none hi]
      rfl
    refine ⟨sT T' ps, sT1 T' ps, ⟨fun s => ?_, fun s i hi => ?_, fun s i hi => ?_, fun s i xs hxs => ?_, fun s i hi => ?_⟩⟩
    · refine ⟨_, ps_set (i := 1) scTK.nd rfl (Or.inl rfl) (pe_call d_behind_gap.ok (hr.mono (by omega)) (by rfl) d_behind_gap.g d_behind_gap.kp d_behind_gap.b .nil pass0 (pa_cons (pv 0) (pa_cons pe_int pa_nil))), fun H => ?_⟩
      refine ⟨.str (S T'), rfl, T', 0, k0, rfl, hT, Nat.zero_le _, hg0, ?_⟩
      show _ = sT T' ps 0
      unfold sT
      rw [ts_pos hts, Nat.zero_add]
      rfl
    · refine ⟨_, pt_cmpR op_lt (pv 1) (pe_callB call_len_str (by rfl) T.len (by decide +kernel) (pa_cons (pv 0) pa_nil)) (nomark _), fun H => ?_⟩
      refine ⟨.int (pos T' ps i), rfl, .str (S T'), rfl, S T', rfl, szT, _, _, rfl, rfl, _, rfl, ?_⟩
      rw [lT, hlen]
      rw [hlen] at hi
      refine decide_eq_decide.mpr ⟨fun z => ?_, fun z => ?_⟩
      · rcases Nat.lt_or_ge i ps.length with y | y
        · exact y
        · rw [hend i y] at z
          omega
      · have := (hpos i hi).2 z
        omega
    · obtain ⟨m, t, h1, h2, h3⟩ := item i hi
      obtain ⟨r, k, e, ht, hp, hg, h5, h6⟩ := ts_at hts i m t h1
      refine ⟨_, ps_set (i := 2) scTK.nd rfl (Or.inl rfl) (pe_call d_token_end.ok (hr.mono (by omega)) (by rfl) d_token_end.g d_token_end.kp d_token_end.b .nil pass0 (pa_cons (pv 0) (pa_cons (pv 1) pa_nil))), fun H => ?_⟩
      refine ⟨.str (S T'), rfl, .int (pos T' ps i), rfl, T', t, r, pos T' ps i, rfl, hT, by rw [h2]; exact e, ht, hp, fun H' sm => ?_⟩
      show _ = sT1 T' ps i
      unfold sT sT1
      rw [h2, h3]
      rfl
    · have hi : i < (outV ps).length := (List.getElem?_eq_some_iff.mp hxs).1
      obtain ⟨m, t, h1, h2, h3⟩ := item i hi
      obtain ⟨r, k, e, ht, hp, hg, h5, h6⟩ := ts_at hts i m t h1
      have exs : xs = [.int m, .str (S t)] := by
        unfold outV at hxs
        rw [List.getElem?_map, h1] at hxs
        exact (Option.some.inj hxs).symm
      subst exs
      refine ⟨by show 2 ≤ sizeLine; decide, _, pa_cons (pv 1) (pa_cons (pe_slice sl_str (pv 0) (po_some (pv 1)) (po_some (pv 2))) pa_nil), fun H => ?_⟩
      refine ⟨.int (pos T' ps i), rfl, .str (S T'), rfl, .int (pos T' ps i), rfl, _, rfl, .int (en ps i), rfl, _, rfl, S T', rfl, szT, ?_⟩
      rw [h2, h3, cut_S (by omega) h6, e, show m + t.length - m = t.length by omega, List.take_left]
      rfl
    · obtain ⟨m, t, h1, h2, h3⟩ := item i hi
      obtain ⟨r, k, e, ht, hp, hg, h5, h6⟩ := ts_at hts i m t h1
      refine ⟨_, ps_set (i := 1) scTK.nd rfl (Or.inl rfl) (pe_call d_behind_gap.ok (hr.mono (by omega)) (by rfl) d_behind_gap.g d_behind_gap.kp d_behind_gap.b .nil pass0 (pa_cons (pv 0) (pa_cons (pv 2) pa_nil))), fun H => ?_⟩
      refine ⟨.str (S T'), rfl, .int (en ps i), rfl, T', en ps i, k, rfl, hT, by omega, by rw [h3, drop_app e]; exact hg, ?_⟩
      show _ = sT T' ps (i + 1)
      unfold sT sT1
      rw [h5, h3, if_neg (Nat.succ_ne_zero i), Nat.add_sub_cancel, h3]
      rfl
end
end M02

set_option Elab.async false
set_option linter.all false
set_option maxRecDepth 100000
set_option maxHeartbeats 4000000
/-! _law_token_end, _law_tokens -/
namespace M02
open PySem PySem.Spec PyProof.Rows L2 GL GT
/-- a test that is false, on whichever way -/
theorem testF {F : (Bool → Hp → Prop) → Prop} {Q : Bool → Hp → Prop} {H : Hp} (h : ∀ Q', Q' false H → F Q') (q : Q false H) : F Q := h Q q
section
variable {P : Program} {w : World} {K : PySem.W.Frag} {mg : Str → Option Value} {base : Heap}
theorem ok_lk {f : Addr} {fd : FuncData} (F : Fun K "_law_token_end" "_law_token_end" sLTok f fd) (T : Bl K mg) (d_string_end : DnO P w K mg base "_law_string_end" 1 ["_law_page", "_law_at"] spLS) : FnOk P w K mg base CX0 2 f fd ["_law_page", "_law_at"] spTE := by
  refine F.ok scLK (fun vs H Q E h => ?_) (fun cdv A outer s H vs Q E hr h => ?_)
  · obtain ⟨_, _, _, _, rfl, _⟩ := h
    rfl
  · obtain ⟨T', t, r, n, rfl, hT, e, ht, hp, q⟩ := h
    refine ⟨_, (pss_cons (ps_for PassesOwn.never rfl (pi_tup (pe_tup (pa_cons pe_str (pa_cons pe_str pa_nil)))) (pg_name (i := 2) scLK.nd rfl (Or.inl rfl))
        (pss_cons (ps_set (i := 3) scLK.nd rfl (Or.inl rfl) (pv 1))
        (pss_cons (ps_while PassesOwn.never (PW.pt (pw_and (pt_cmpR op_lt (pv 3) (pe_callB call_len_str (by rfl) T.len (by decide +kernel) (pa_cons (pv 0) pa_nil)) (nomark _)) (pw_and1 (pt_cmpR op_in_sign (pe_ix ix_str (pv 0) (pv 3) (fun _ _ => rfl)) (pv 2) (by rfl)))))
          (pss_one (ps_set (i := 3) scLK.nd rfl (Or.inl rfl) (pe_op op_add (pv 3) pe_int))))
        (pss_one (ps_if (pt_cmpR op_gt (pv 3) (pv 1) (nomark _))
          (pss_one (ps_ret (pe_ifExp (PW.pt (pw_or (pt_cmpR op_ne (pe_ix ix_str (pv 0) (pv 1) (fun _ _ => rfl)) pe_str (nomark _)) (pw_or1 (pt_cmpR op_eq (pv 3) (pe_op op_add (pv 1) pe_int) (nomark _))))) (pv 3) pe_non)))
          pss_nil)))))
      (pss_cons (ps_if (pt_cmpR op_eq (pe_ix ix_str (pv 0) (pv 1) (fun _ _ => rfl)) pe_str (nomark _))
        (pss_one (ps_ret (pe_call d_string_end.ok (hr.mono (by omega)) (by rfl) d_string_end.g d_string_end.kp d_string_end.b .nil pass0 (pa_cons (pv 0) (pa_cons (pv 1) pa_nil)))))
        pss_nil)
      (pss_one (ps_ret (pe_ifExp (pt_cmpR op_in_sign (pe_ix ix_str (pv 0) (pv 1) (fun _ _ => rfl)) pe_str (by rfl)) (pe_op op_add (pv 1) pe_int) pe_non))))), ?_⟩
    have lT : (S T').length = T'.length := len_S T'
    have szT : (S T').length ≤ sizeLine := by rw [lT]; exact big_le hT
    obtain ⟨c, t', et, _⟩ := ht.head
    have e' : T'.drop n = c :: (t' ++ r) := by rw [e, et]; rfl
    have hc : T'[n]? = some c := drop_get e'
    have hlt : n < T'.length := drop_lt e'
    have lt0 : t.length = t'.length + 1 := by rw [et]; rfl
    refine ⟨by show 2 ≤ sizeLine; decide, fun tp ntp => ⟨tp, rfl, ⟨_, SqT.of upd_same⟩, ?_⟩⟩
    have sm0 : Same H (upd H tp (.tup [.str "abcdefghijklmnopqrstuvwxyz", .str "0123456789"])) := same_new ntp
    generalize hHx : upd H tp (.tup [.str "abcdefghijklmnopqrstuvwxyz", .str "0123456789"]) = Hx at sm0 ⊢
    have htp : Hx tp = some (.tup [.str "abcdefghijklmnopqrstuvwxyz", .str "0123456789"]) := by rw [← hHx]; exact upd_same
    refine for_tup (xs := [.str "abcdefghijklmnopqrstuvwxyz", .str "0123456789"]) (fun i σ H2 => H2 = Hx ∧ (1 ≤ i → c ∉ lets) ∧ (2 ≤ i → c ∉ digs) ∧ ∃ a b, σ = [some (.str (S T')), some (.int n), a, b]) ⟨rfl, fun h => by omega, fun h => by omega, _, _, rfl⟩ (fun i σ H2 _ hP => by rw [hP.1]; exact SqT.of htp) (fun i x σ H2 hx hP => ?_) (fun σ H2 hP => ?_)
    · obtain ⟨rfl, h1, h2, a, b, rfl⟩ := hP
      obtain ⟨sg, rfl, hsg⟩ : ∃ sg : Cd, x = .str (S sg) ∧ ((sg = lets ∧ i = 0) ∨ (sg = digs ∧ i = 1)) := by
        rcases i with _ | _ | i
        · exact ⟨lets, (Option.some.inj hx).symm, .inl ⟨rfl, rfl⟩⟩
        · exact ⟨digs, (Option.some.inj hx).symm, .inr ⟨rfl, rfl⟩⟩
        · simp at hx
      refine ⟨.int n, rfl, ?_⟩
      -- the run of such signs
      obtain ⟨u, r2, he, hu, hr2, hcase⟩ : ∃ u r2 : Cd, T'.drop n = u ++ r2 ∧ (∀ c ∈ u, c ∈ sg) ∧ (∀ c, r2.head? = some c → c ∉ sg) ∧ ((u = [] ∧ c ∉ sg) ∨ (u = t ∧ c ∈ sg)) := by
        by_cases hcs : c ∈ sg
        · rcases hsg with ⟨rfl, _⟩ | ⟨rfl, _⟩
          · have := ht.letsAll et hcs
            exact ⟨t, r, e, this, hp.lets ht.ne this, .inr ⟨rfl, hcs⟩⟩
          · have := (ht.digsAll et hcs).1
            exact ⟨t, r, e, this, hp.digs ht.ne this, .inr ⟨rfl, hcs⟩⟩
        · refine ⟨[], T'.drop n, rfl, fun _ h => (by cases h), fun d hd => ?_, .inl ⟨rfl, hcs⟩⟩
          rw [e'] at hd
          have : c = d := by simpa using hd
          exact this ▸ hcs
      have le := congrArg List.length he
      simp at le
      refine ⟨fun k σ H3 => ∃ j : Nat, H3 = H2 ∧ k = u.length - j ∧ j ≤ u.length ∧ σ = [some (.str (S T')), some (.int n), some (.str (S sg)), some (.int ((n + j : Nat) : Int))], ⟨u.length, 0, rfl, rfl, Nat.zero_le _, rfl⟩, fun k σ H3 h => ?_⟩
      obtain ⟨j, rfl, rfl, hj, rfl⟩ := h
      have at_ : T'[n + j]? = (u ++ r2)[j]? := by rw [← he, List.getElem?_drop]
      by_cases hju : j < u.length
      · refine ⟨.int ((n + j : Nat) : Int), rfl, .str (S T'), rfl, S T', rfl, szT, _, _, rfl, rfl, _, rfl, ?_⟩
        rw [lT, decide_eq_true (show ((n + j : Nat) : Int) < (T'.length : Int) by omega)]
        obtain ⟨d, hd⟩ : ∃ d, u[j]? = some d := ⟨_, List.getElem?_eq_getElem hju⟩
        have hdT : T'[n + j]? = some d := by rw [at_, List.getElem?_append_left hju]; exact hd
        refine iteT ⟨.str (S T'), rfl, .int ((n + j : Nat) : Int), rfl, S T', _, d, rfl, rfl, szT, atS hdT, .str (S sg), rfl, d, S sg, rfl, rfl, _, rfl, ?_⟩
        rw [show (S sg).cps.toList = sg from cs_S sg, decide_eq_true (hu d (List.mem_of_getElem? hd))]
        refine iteT ⟨fun σ' H' => H' = H3 ∧ σ' = [some (.str (S T')), some (.int n), some (.str (S sg)), some (.int ((n + (j + 1) : Nat) : Int))], fun σ' H' h => ⟨u.length - (j + 1), by omega, j + 1, h.1, rfl, by omega, h.2⟩, ?_⟩
        refine ⟨_, rfl, ((n + j : Nat) : Int), 1, rfl, rfl, rfl, ?_⟩
        rw [show ((n + (j + 1) : Nat) : Int) = ((n + j : Nat) : Int) + 1 by omega]
        rfl
      · have ej : j = u.length := by omega
        subst ej
        refine testF (H := H3) (fun Q' hq => ?_) ?_
        · refine ⟨.int ((n + u.length : Nat) : Int), rfl, .str (S T'), rfl, S T', rfl, szT, _, _, rfl, rfl, _, rfl, ?_⟩
          rw [lT]
          by_cases hend : n + u.length < T'.length
          · rw [decide_eq_true (show ((n + u.length : Nat) : Int) < (T'.length : Int) by omega)]
            obtain ⟨d, hd⟩ : ∃ d, T'[n + u.length]? = some d := ⟨_, List.getElem?_eq_getElem hend⟩
            refine iteT ⟨.str (S T'), rfl, .int ((n + u.length : Nat) : Int), rfl, S T', _, d, rfl, rfl, szT, atS hd, .str (S sg), rfl, d, S sg, rfl, rfl, _, rfl, ?_⟩
            have hd' : d ∉ sg := by
              rw [hd, List.getElem?_append_right (Nat.le_refl _), Nat.sub_self, ← List.head?_eq_getElem?] at at_
              exact hr2 d at_.symm
            rw [show (S sg).cps.toList = sg from cs_S sg, decide_eq_false hd']
            exact hq
          · rw [decide_eq_false (show ¬ ((n + u.length : Nat) : Int) < (T'.length : Int) by omega)]
            exact iteF hq
        · refine iteF ?_
          refine ⟨_, rfl, .int n, rfl, _, _, rfl, rfl, _, rfl, ?_⟩
          rcases hcase with ⟨rfl, hcs⟩ | ⟨rfl, hcs⟩
          · rw [decide_eq_false (by show ¬ (n : Int) < ((n + 0 : Nat) : Int); omega)]
            refine iteF ⟨rfl, fun _ => ?_, fun h => ?_, _, _, rfl⟩
            · rcases hsg with ⟨rfl, _⟩ | ⟨rfl, hi⟩
              · exact hcs
              · exact h1 (by omega)
            · rcases hsg with ⟨rfl, hi⟩ | ⟨rfl, hi⟩
              · omega
              · exact hcs
          · rw [decide_eq_true (show (n : Int) < ((n + u.length : Nat) : Int) by omega)]
            refine iteT ?_
            refine ⟨.str (S T'), rfl, .int n, rfl, S T', n, c, rfl, rfl, szT, atS hc, rfl, _, rfl, ?_⟩
            by_cases h48 : c = 48
            · subst h48
              rw [show (!decide (V.str (ch 48) = V.str "0")) = false by decide +kernel]
              refine iteF ⟨_, rfl, .int n, rfl, _, _, rfl, rfl, rfl, _, rfl, ?_⟩
              have hl : u.length = 1 := by
                rcases hsg with ⟨rfl, hi⟩ | ⟨rfl, hi⟩
                · have := mem_lets.mp hcs
                  omega
                · exact (ht.digsAll et hcs).2 rfl
              have e1 : decide (V.int ((n + u.length : Nat) : Int) = V.int ((n : Int) + 1)) = true := decide_eq_true (by rw [hl]; rfl)
              rw [e1]
              exact iteT ⟨_, rfl, q H3 sm0⟩
            · have e1 : (!decide (V.str (ch c) = V.str "0")) = true := by
                rw [decide_eq_false fun z => ?_]
                · rfl
                · have z : ch c = ch 48 := by injection z
                  exact h48 (ch_inj z)
              rw [e1]
              exact iteT (iteT ⟨_, rfl, q H3 sm0⟩)
    · obtain ⟨rfl, h1, h2, a, b, rfl⟩ := hP
      have n1 : c ∉ lets := h1 (by decide)
      have n2 : c ∉ digs := h2 (by decide)
      refine ⟨.str (S T'), rfl, .int n, rfl, S T', n, c, rfl, rfl, szT, atS hc, rfl, _, rfl, ?_⟩
      cases ht with
      | word _ h3 => exact absurd (h3 c (by rw [et]; exact List.mem_cons_self)) n1
      | num _ h3 => exact absurd (h3 c (by rw [et]; exact List.mem_cons_self)) n2
      | @str b hb =>
        injection et with ec et
        subst ec
        rw [show decide (V.str (ch 34) = V.str "\"") = true by decide +kernel]
        refine iteT ⟨.str (S T'), rfl, .int n, rfl, T', b, r, n, rfl, hT, ?_, hb, ?_⟩
        · rw [e]
          simp
        · have := q H2 sm0
          rw [show ((n + (34 :: (b ++ [34])).length : Nat) : Int) = ((n + b.length + 2 : Nat) : Int) by simp; omega] at this
          exact this
      | @sign c' hs =>
        injection et with ec et
        subst ec
        have hs' := mem_sgns.mp hs
        have e4 : decide (V.str (ch c') = V.str "\"") = false := decide_eq_false fun z => by
          have z : ch c' = ch 34 := by injection z
          have := ch_inj z
          omega
        rw [e4]
        refine iteF ⟨.str (S T'), rfl, .int n, rfl, S T', n, c', rfl, rfl, szT, atS hc, c', _, rfl, rfl, _, rfl, ?_⟩
        rw [show (Str.cps "{}[]():.,=+-*").toList = sgns from rfl, decide_eq_true hs]
        refine iteT ⟨.int n, rfl, _, _, rfl, rfl, ?_⟩
        exact q H2 sm0
end
end M02

set_option Elab.async false
set_option linter.all false
set_option maxRecDepth 100000
set_option maxHeartbeats 4000000
/-! _law_tokens -/
namespace M02
open PySem PySem.Spec PyProof.Rows L2 GL GT
/-- tuples at ts -/
def Tups (H : Hp) (ts : List Addr) (out : List (List V)) : Prop := ts.length = out.length ∧ ∀ (j : Nat) (t : Addr) (xs : List V), ts[j]? = some t → out[j]? = some xs → H t = some (.tup xs)
theorem Tups.nil (H : Hp) : Tups H [] [] := ⟨rfl, fun j t xs h => by simp at h⟩
theorem Tups.mono {H H' : Hp} {ts : List Addr} {out : List (List V)} (h : Tups H ts out) (k : ∀ t ∈ ts, ∀ o, H t = some o → H' t = some o) : Tups H' ts out :=
  ⟨h.1, fun j t xs h1 h2 => k t (List.mem_of_getElem? h1) _ (h.2 j t xs h1 h2)⟩
theorem Tups.app {H : Hp} {ts us : List Addr} {out om : List (List V)} (h : Tups H ts out) (g : Tups H us om) : Tups H (ts ++ us) (out ++ om) := by
  refine ⟨by simp [h.1, g.1], fun j t xs h1 h2 => ?_⟩
  rcases Nat.lt_or_ge j ts.length with z | z
  · rw [List.getElem?_append_left z] at h1
    rw [List.getElem?_append_left (by rw [← h.1]; exact z)] at h2
    exact h.2 j t xs h1 h2
  · rw [List.getElem?_append_right z] at h1
    rw [List.getElem?_append_right (by rw [← h.1]; exact z), ← h.1] at h2
    exact g.2 _ t xs h1 h2
theorem Tups.one {H : Hp} {t : Addr} {xs : List V} (h : H t = some (.tup xs)) : Tups H [t] [xs] := ⟨rfl, fun j t' ys h1 h2 => by
  cases j with
  | zero =>
    have : t = t' := by simpa using h1
    have e2 : xs = ys := by simpa using h2
    subst this
    subst e2
    exact h
  | succ j => simp at h1⟩
theorem lx_cases {n c : Nat} {R R' : Cd} {rs : List (Nat × Cd)} (h : Lx n R rs) (e : R = c :: R') : ((c = 32 ∨ c = 10) ∧ Lx (n + 1) R' rs) ∨ (c = 35 ∧ ∃ b r, R' = b ++ r ∧ (∀ d ∈ b, d ≠ 10) ∧ (r = [] ∨ r.head? = some 10) ∧ Lx (n + 1 + b.length) r rs) ∨
    ((c ≠ 32 ∧ c ≠ 10 ∧ c ≠ 35) ∧ ∃ t r rs', Tok t ∧ Parts t r ∧ R = t ++ r ∧ rs = (n, t) :: rs' ∧ Lx (n + t.length) r rs') := by
  cases h with
  | nil => cases e
  | gap hc h =>
    injection e with e1 e2
    subst e1
    subst e2
    exact .inl ⟨hc, h⟩
  | rem hb hr h =>
    injection e with e1 e2
    subst e1
    exact .inr (.inl ⟨rfl, _, _, e2.symm, hb, hr, h⟩)
  | tok ht hp h =>
    obtain ⟨d, q, rfl, h1⟩ := ht.head
    have e1 : d = c := by
      injection e
    exact .inr (.inr ⟨e1 ▸ h1, _, _, _, ht, hp, rfl, rfl, h⟩)
theorem outV_app (a b : List (Nat × Cd)) : outV (a ++ b) = outV a ++ outV b := by simp [outV]
section
variable {P : Program} {w : World} {K : PySem.W.Frag} {mg : Str → Option Value} {base : Heap}
def spLL : Sp := fun vs H Q _ => ∃ (T : Cd) (ps : List (Nat × Cd)), vs = [.str (S T)] ∧ T.length ≤ 1000000 ∧ Lx 0 T ps ∧
  ∀ (H' : Hp) (l : Addr) (ts : List Addr), Same H H' → H l = none → H' l = some (.lst (refs ts)) → Tups H' ts (outV (ps ++ [(T.length, [])])) → (∀ t ∈ ts, H t = none) → ts.length ≤ T.length + 1 → Q (.ref l) H'
theorem ok_ll {f : Addr} {fd : FuncData} (F : Fun K "_law_tokens" "_law_tokens" sLToks f fd) (T : Bl K mg) (d_law_token_end : DnO P w K mg base "_law_token_end" 2 ["_law_page", "_law_at"] spTE) : FnOk P w K mg base CX0 3 f fd ["_law_page"] spLL := by
  refine F.ok scLL (fun vs H Q E h => ?_) (fun cdv A outer s H vs Q E hr h => ?_)
  · obtain ⟨_, _, rfl, _⟩ := h
    rfl
  · obtain ⟨T', ps, rfl, hT, hx, q⟩ := h
    refine ⟨_, (pss_cons (ps_par (i := 1) (j := 2) (by rfl) scLL.nd rfl rfl (by decide) rfl rfl (pa_cons (pe_lst pa_nil) (pa_cons pe_int pa_nil)) (by rfl))
      (pss_cons (ps_while PassesOwn.never (pt_cmpR op_lt (pv 2) (pe_callB call_len_str (by rfl) T.len (by decide +kernel) (pa_cons (pv 0) pa_nil)) (nomark _))
        (pss_cons (ps_set (i := 3) scLL.nd rfl (Or.inl rfl) (pe_op op_add (pv 2) pe_int))
        (pss_cons (ps_if (pt_cmpR op_eq (pe_ix ix_str (pv 0) (pv 2) (fun _ _ => rfl)) pe_str (nomark _))
          (pss_one (ps_set (i := 3) scLL.nd rfl (Or.inl rfl) (pe_ifExp (pt_cmpR op_in_sign pe_str (pe_slice sl_str (pv 0) (po_some (pv 2)) po_none) (by rfl)) (pe_bm PySem.F.plainAttrs_str PySem.F.slot_str_index PySem.F.type_str_index mt_indexF (pv 0) (pa_cons pe_str (pa_cons (pv 2) pa_nil))) (pe_callB call_len_str (by rfl) T.len (by decide +kernel) (pa_cons (pv 0) pa_nil)))))
          (pss_one (ps_if (pt_cmpR op_notIn_sign (pe_ix ix_str (pv 0) (pv 2) (fun _ _ => rfl)) pe_str (by rfl))
            (pss_cons (ps_set (i := 3) scLL.nd rfl (Or.inl rfl) (pe_call d_law_token_end.ok (hr.mono (by omega)) (by rfl) d_law_token_end.g d_law_token_end.kp d_law_token_end.b .nil pass0 (pa_cons (pv 0) (pa_cons (pv 2) pa_nil))))
            (pss_cons (ps_expr (pe_bm PySem.F.plainAttrs_list PySem.F.slot_list_append PySem.F.type_list_append mt_append (pv 1) (pa_cons (pe_tup (pa_cons (pv 2) (pa_cons (pe_ifExp (pt_cmpR op_isN (pv 3) pe_non (nomark _)) pe_str (pe_slice sl_str (pv 0) (po_some (pv 2)) (po_some (pv 3)))) pa_nil))) pa_nil)))
            (pss_one (ps_if (pt_cmpR op_isN (pv 3) pe_non (nomark _))
              (pss_one (ps_ret (pv 1)))
              pss_nil))))
            pss_nil)))
        (pss_one (ps_set (i := 2) scLL.nd rfl (Or.inl rfl) (pv 3))))))
      (pss_one (ps_ret (pe_op op_cat (pv 1) (pe_lst (pa_cons (pe_tup (pa_cons (pe_callB call_len_str (by rfl) T.len (by decide +kernel) (pa_cons (pv 0) pa_nil)) (pa_cons pe_str pa_nil))) pa_nil))))))), ?_⟩
    have lT : (S T').length = T'.length := len_S T'
    have szT : (S T').length ≤ sizeLine := by rw [lT]; exact big_le hT
    refine ⟨Nat.zero_le _, fun D nD => ⟨_, _, rfl, ?_⟩⟩
    refine ⟨fun k σ H2 => ∃ (n : Nat) (ev : Option V) (ts : List Addr) (qs rs : List (Nat × Cd)), k = T'.length - n ∧ σ = [some (.str (S T')), some (.ref D), some (.int n), ev] ∧ Same H H2 ∧ H2 D = some (.lst (refs ts)) ∧ Tups H2 ts (outV qs) ∧ (∀ t ∈ ts, H t = none) ∧ qs ++ rs = ps ∧ qs.length ≤ n ∧ n ≤ T'.length ∧ Lx n (T'.drop n) rs,
      ⟨T'.length, 0, none, [], [], ps, rfl, rfl, same_new nD, upd_same, .nil _, fun t h => by (cases h), rfl, Nat.zero_le _, Nat.zero_le _, hx⟩, fun k σ H2 h => ?_⟩
    obtain ⟨n, ev, ts, qs, rs, rfl, rfl, sm, hD, hts, hnew, hqs, hql, hn, hL⟩ := h
    have ltq : ts.length = qs.length := by rw [hts.1]; simp [outV]
    refine ⟨.int n, rfl, .str (S T'), rfl, S T', rfl, szT, _, _, rfl, rfl, _, rfl, ?_⟩
    rw [lT]
    by_cases hlt : n < T'.length
    · rw [decide_eq_true (show (n : Int) < (T'.length : Int) by omega)]
      obtain ⟨c, hc⟩ : ∃ c, T'[n]? = some c := ⟨_, List.getElem?_eq_getElem hlt⟩
      have hdr : T'.drop n = c :: T'.drop (n + 1) := by
        rw [List.drop_eq_getElem_cons hlt]
        rw [List.getElem?_eq_getElem hlt] at hc
        rw [Option.some.inj hc]
      -- what the turn is to reach
      refine iteT ⟨fun σ' H' => ∃ (n' : Nat) (ev : Option V) (ts : List Addr) (qs rs : List (Nat × Cd)), n < n' ∧ σ' = [some (.str (S T')), some (.ref D), some (.int n'), ev] ∧ Same H H' ∧ H' D = some (.lst (refs ts)) ∧ Tups H' ts (outV qs) ∧ (∀ t ∈ ts, H t = none) ∧ qs ++ rs = ps ∧ qs.length ≤ n' ∧ n' ≤ T'.length ∧ Lx n' (T'.drop n') rs, fun σ' H' h => ?_, ?_⟩
      · obtain ⟨n', ev, ts, qs, rs, h0, h⟩ := h
        have := h.2.2.2.2.2.2.2.1
        exact ⟨T'.length - n', by omega, n', ev, ts, qs, rs, rfl, h⟩
      refine ⟨.int n, rfl, n, 1, rfl, rfl, ?_⟩
      refine ⟨.str (S T'), rfl, .int n, rfl, S T', n, c, rfl, rfl, szT, atS hc, rfl, _, rfl, ?_⟩
      have e2 : decide (V.str (ch c) = V.str "#") = decide (c = 35) := decide_eq_decide.mpr ⟨fun z => by
          have z : ch c = ch 35 := by injection z
          exact ch_inj z, fun z => by rw [z]; rfl⟩
      rw [e2]
      rcases lx_cases hL hdr with ⟨h0, hL'⟩ | ⟨rfl, b, r, hR, hb, hr', hL'⟩ | ⟨h0, t, r, rs', ht, hp, hR, rfl, hL'⟩
      · -- a blank
        rw [decide_eq_false (show ¬ c = 35 by omega)]
        refine iteF ⟨.str (S T'), rfl, .int n, rfl, S T', n, c, rfl, rfl, szT, atS hc, c, _, rfl, rfl, _, rfl, ?_⟩
        have e3 : (!decide (c ∈ (Str.cps " \n").toList)) = false := by
          rw [show (Str.cps " \n").toList = [32, 10] by decide +kernel, decide_eq_true (by simp; omega)]
          rfl
        rw [e3]
        refine iteF ⟨_, rfl, n + 1, some (.int ((n : Int) + 1)), ts, qs, rs, by omega, rfl, sm, hD, hts, hnew, hqs, by omega, by omega, hL'⟩
      · -- a remark
        rw [decide_eq_true rfl]
        have hdr' : T'.drop n = (35 :: b) ++ r := by rw [hdr, hR]; rfl
        have le := congrArg List.length hdr'
        simp at le
        have hnb : 10 ∉ (35 :: b) := fun z => by
          rcases List.mem_cons.mp z with z | z
          · omega
          · exact hb 10 z rfl
        have hf := find_at (c := 10) hn hdr' hnb
        have hgR : T'.drop (n + 1 + b.length) = r := by
          have := drop_app hdr'
          rw [show n + 1 + b.length = n + (35 :: b).length by simp; omega]
          exact this
        refine iteT ?_
        refine ⟨.str (S T'), rfl, .int n, rfl, _, rfl, S T', rfl, szT, ?_⟩
        rw [cut_E hn]
        refine ⟨10, _, rfl, rfl, _, rfl, ?_⟩
        rw [show (S (T'.drop n)).cps.toList = T'.drop n from cs_S _]
        rcases hr' with hr' | hr'
        · rw [decide_eq_false (by rw [hdr', hr', List.append_nil]; exact hnb)]
          refine iteF ⟨.str (S T'), rfl, S T', rfl, szT, ?_⟩
          rw [hr'] at le
          have e5 : n + 1 + b.length = (S T').length := by rw [lT]; simp at le; omega
          refine ⟨_, rfl, n + 1 + b.length, some (.int ((S T').length : Int)), ts, qs, rs, by omega, ?_, sm, hD, hts, hnew, hqs, by omega, by omega, by rw [hgR]; exact hL'⟩
          rw [e5]
          rfl
        · have hm : 10 ∈ T'.drop n := by
            rw [hdr']
            refine List.mem_append_right _ ?_
            cases r with
            | nil => simp at hr'
            | cons d r =>
              have : d = 10 := by simpa using hr'
              rw [this]
              exact List.mem_cons_self
          rw [decide_eq_true hm]
          refine iteT ⟨.str (S T'), rfl, rfl, .int n, rfl, S T', _, n, n + (35 :: b).length, rfl, rfl, hf.1 hr', ?_⟩
          refine ⟨_, rfl, n + 1 + b.length, some (.int ((n + (35 :: b).length : Nat) : Int)), ts, qs, rs, by omega, ?_, sm, hD, hts, hnew, hqs, by omega, by omega, by rw [hgR]; exact hL'⟩
          rw [show n + 1 + b.length = n + (35 :: b).length by simp; omega]
          rfl
      · -- a token
        rw [decide_eq_false h0.2.2]
        have le := congrArg List.length hR
        simp at le
        have tl : 0 < t.length := List.length_pos_iff.mpr ht.ne
        refine iteF ⟨.str (S T'), rfl, .int n, rfl, S T', n, c, rfl, rfl, szT, atS hc, c, _, rfl, rfl, _, rfl, ?_⟩
        have e3 : (!decide (c ∈ (Str.cps " \n").toList)) = true := by
          rw [show (Str.cps " \n").toList = [32, 10] by decide +kernel, decide_eq_false (by simp; omega)]
          rfl
        rw [e3]
        refine iteT ⟨.str (S T'), rfl, .int n, rfl, T', t, r, n, rfl, hT, hR, ht, hp, fun H3 sm3 => ?_⟩
        have hD3 := sm3 _ _ hD
        refine ⟨.ref D, rfl, .inl ⟨rfl, _, SqL.of hD3⟩, .int n, rfl, _, rfl, rfl, _, rfl, ?_⟩
        rw [show decide (V.int ((n + t.length : Nat) : Int) = V.non) = false by rfl]
        refine iteF ⟨.str (S T'), rfl, .int n, rfl, _, rfl, _, rfl, _, rfl, S T', rfl, szT, by show 2 ≤ sizeLine; decide, fun tp ntp => ?_⟩
        rw [cut_S (by omega) (by omega), show n + t.length - n = t.length by omega, hR, List.take_left]
        have sm4 : Same H (upd H3 tp (.tup [.int n, .str (S t)])) := same_put (fun a o h => sm3 _ _ (sm _ _ h)) (by
          cases z : H tp with
          | none => rfl
          | some o =>
            have := sm3 _ _ (sm _ _ z)
            rw [ntp] at this
            cases this)
        have ntpH : H tp = none := by
          cases z : H tp with
          | none => rfl
          | some o =>
            have := sm3 _ _ (sm _ _ z)
            rw [ntp] at this
            cases this
        have hD4 : (upd H3 tp (.tup [.int n, .str (S t)])) D = some (.lst (refs ts)) := by rw [upd_ne (ne_of_none hD3 ntp)]; exact hD3
        refine ⟨D, _, _, rfl, rfl, hD4, by simp; exact Nat.lt_of_lt_of_le (by omega : ts.length < 1000001) (by decide), ?_⟩
        refine ⟨_, rfl, rfl, _, rfl, ?_⟩
        rw [show decide (V.int ((n + t.length : Nat) : Int) = V.non) = false by rfl]
        refine iteF ⟨_, rfl, n + t.length, some (.int ((n + t.length : Nat) : Int)), ts ++ [tp], qs ++ [(n, t)], rs', by omega, rfl, same_put sm4 nD, ?_, ?_, ?_, by rw [← hqs]; simp, by simp; omega, by omega, by rw [drop_app hR]; exact hL'⟩
        · rw [upd_same]
          simp
        · rw [outV_app]
          refine Tups.app (hts.mono fun t' ht' o ho => ?_) (.one ?_)
          · have nD' : t' ≠ D := fun z => by
              obtain ⟨j, hj⟩ := List.getElem?_of_mem ht'
              obtain ⟨ys, hy⟩ : ∃ ys, (outV qs)[j]? = some ys := ⟨_, List.getElem?_eq_getElem (by rw [← hts.1]; exact (List.getElem?_eq_some_iff.mp hj).1)⟩
              have := hts.2 j t' ys hj hy
              rw [z, hD] at this
              cases this
            have h3 := sm3 _ _ ho
            rw [upd_ne nD', upd_ne (ne_of_none h3 ntp)]
            exact h3
          · rw [upd_ne (ne_of_none hD3 ntp).symm]
            exact upd_same
        · intro t' ht'
          rcases List.mem_append.mp ht' with z | z
          · exact hnew t' z
          · rw [List.mem_singleton.mp z]
            exact ntpH
    · rw [decide_eq_false (show ¬ (n : Int) < (T'.length : Int) by omega)]
      have hn' : n = T'.length := by omega
      have hrs : rs = [] := by
        rw [List.drop_eq_nil_iff.mpr (by omega)] at hL
        generalize hnil : ([] : Cd) = R at hL
        cases hL with
        | nil => rfl
        | gap => cases hnil
        | rem => cases hnil
        | tok ht =>
          have := ht.ne
          have h2 := congrArg List.length hnil
          simp at h2
          have h3 : 0 < _ := List.length_pos_iff.mpr this
          omega
      refine iteF ?_
      refine ⟨.ref D, rfl, .str (S T'), rfl, S T', rfl, szT, by show 2 ≤ sizeLine; decide, fun tp ntp => ⟨by show 1 ≤ sizeLine; decide, fun l1 nl1 => ?_⟩⟩
      have ntpH : H tp = none := by
        cases z : H tp with
        | none => rfl
        | some o =>
          have := sm _ _ z
          rw [ntp] at this
          cases this
      have hD1 : (upd H2 tp (.tup [.int (S T').length, .str ""])) D = some (.lst (refs ts)) := by rw [upd_ne (ne_of_none hD ntp)]; exact hD
      have hD2 : (upd (upd H2 tp (.tup [.int (S T').length, .str ""])) l1 (.lst [.ref tp])) D = some (.lst (refs ts)) := by rw [upd_ne (ne_of_none hD1 nl1)]; exact hD1
      refine ⟨D, l1, _, _, rfl, rfl, hD2, upd_same, by show (refs ts).length + 1 ≤ sizeLine; rw [List.length_map]; exact Nat.le_trans (by omega : ts.length + 1 ≤ 1000001) (by decide), fun l nl => ?_⟩
      have f1 : ∀ a o, H2 a = some o → (upd (upd H2 tp (.tup [.int (S T').length, .str ""])) l1 (.lst [.ref tp])) a = some o := fun a o h => by
        have h1 : (upd H2 tp (.tup [.int (S T').length, .str ""])) a = some o := by rw [upd_ne (ne_of_none h ntp)]; exact h
        rw [upd_ne (ne_of_none h1 nl1)]
        exact h1
      have f2 : ∀ a o, H2 a = some o → (upd (upd (upd H2 tp (.tup [.int (S T').length, .str ""])) l1 (.lst [.ref tp])) l (.lst (refs ts ++ [.ref tp]))) a = some o := fun a o h => by
        rw [upd_ne (ne_of_none (f1 a o h) nl)]
        exact f1 a o h
      refine q _ l (ts ++ [tp]) (fun a o h => f2 a o (sm _ _ h)) ?_ ?_ ?_ ?_ ?_
      · cases z : H l with
        | none => rfl
        | some o =>
          have := f1 _ _ (sm _ _ z)
          rw [nl] at this
          cases this
      · rw [upd_same]
        simp
      · rw [hrs, List.append_nil] at hqs
        rw [← hqs, outV_app]
        refine Tups.app (hts.mono fun t' _ o ho => f2 t' o ho) (.one ?_)
        have h1 : (upd H2 tp (.tup [.int (S T').length, .str ""])) tp = some (.tup [.int (S T').length, .str ""]) := upd_same
        have h2 : (upd (upd H2 tp (.tup [.int (S T').length, .str ""])) l1 (.lst [.ref tp])) tp = some (.tup [.int (S T').length, .str ""]) := by rw [upd_ne (ne_of_none h1 nl1)]; exact h1
        rw [upd_ne (ne_of_none h2 nl), h2, lT]
        rfl
      · intro t' ht'
        rcases List.mem_append.mp ht' with z | z
        · exact hnew t' z
        · rw [List.mem_singleton.mp z]
          exact ntpH
      · simp
        omega
end
end M02

set_option Elab.async false
set_option linter.all false
set_option maxRecDepth 100000
set_option maxHeartbeats 4000000
/-! drawn tokens: _law_token, _law_parts -/
namespace M02
open PySem PySem.Spec PyProof.Rows L2 GL GT
theorem scTo : FnScope ["_law_box_here", "_law_sort_of", "_law_size", "_law_turn"] ["_law_box_here"] (defScope sToken) := ⟨rfl, rfl, rfl, by decide +kernel, rfl, by decide +kernel, by decide +kernel⟩
theorem scPa : FnScope ["_law_ahead", "_law_token_here", "_law_letters", "_law_digits"] ["_law_ahead", "_law_token_here"] (defScope sParts) := ⟨rfl, rfl, rfl, by decide +kernel, rfl, by decide +kernel, by decide +kernel⟩
theorem Off.mem {b a : Addr} {H H' : Hp} {o : HO} (x : Off b H H') (n : a ≠ b) (h : H a = some o) : H' a = some o := x a o n h
theorem Off.none {b a : Addr} {H H' : Hp} (x : Off b H H') (n : a ≠ b) (h : H' a = none) : H a = none := by
  cases z : H a with
  | none => rfl
  | some o =>
    have := x a o n z
    rw [h] at this
    cases this
/-- the promise of _law_of, not to be opened -/
structure OfW (vs : List V) (H : Hp) (Q : VK) (E : XK) : Prop where
  h : spOf vs H Q E
/-- one of a written list -/
theorem of_new {H : Hp} {b : Addr} {n : Nat} {xs : List V} {Q : VK} (hB : Box H b n) (hn : n < 1000000) (h0 : 0 < xs.length) (h1 : xs.length ≤ 1000) (q : ∀ x H', x ∈ xs → Off b H H' → Box H' b (n + 1) → Q x H') :
    xs.length ≤ sizeLine ∧ ∀ p, H p = none → OfW [.ref b, .ref p] (upd H p (.lst xs)) Q E0 :=
  ⟨big_le (by omega), fun p np => .mk ⟨b, p, xs, n, rfl, upd_same, hB.ne np, hB.new (hB.ne np), hn, h0, by omega, fun x u hx hB2 => q x _ hx ((Off.new np).trans Off.box) hB2⟩⟩
/-- one sign of a written text -/
theorem of_sign {H : Hp} {b : Addr} {n : Nat} {z : Str} {Q : VK} (hB : Box H b n) (hn : n < 1000000) (h0 : 0 < (cs z).length) (h1 : (cs z).length ≤ 1000) (q : ∀ c H', c ∈ cs z → Off b H H' → Box H' b (n + 1) → Q (.str (ch c)) H') :
    ∃ x, [V.str z] = [.str x] ∧ x.length ≤ sizeLine ∧ ∀ l, H l = none → OfW [.ref b, .ref l] (upd H l (.lst (GL.signs x))) Q E0 := by
  refine ⟨z, rfl, big_le (by rw [len_cs]; exact Nat.le_trans h1 (by decide)), fun p np => .mk ⟨b, p, GL.signs z, n, rfl, upd_same, hB.ne np, hB.new (hB.ne np), hn, by unfold GL.signs; rw [List.length_map]; exact h0, by unfold GL.signs; rw [List.length_map]; exact Nat.lt_of_le_of_lt h1 (by decide), fun x u hx hB2 => ?_⟩⟩
  obtain ⟨c, hc, rfl⟩ := List.mem_map.mp hx
  exact q c _ hc ((Off.new np).trans Off.box) hB2
theorem joinL_nil : ∀ l : List Cd, TL.joinL [] l = l.flatten
  | [] => rfl
  | [p] => by simp [TL.joinL]
  | p :: q :: r => by
    show p ++ ([] ++ TL.joinL [] (q :: r)) = _
    rw [joinL_nil (q :: r)]
    simp
theorem cs_join (y : Str) (l : List Str) : cs (Txt.join y l) = TL.joinL (cs y) (l.map cs) := by rw [TL.join_eq]; exact TL.tl_join y l
theorem join_ch (l : Cd) : Txt.join "" (l.map ch) = S l := str_ext (by
  rw [cs_join, show cs "" = [] from rfl, joinL_nil, cs_S, List.map_map]
  induction l with
  | nil => rfl
  | cons c r ih =>
    rw [List.map_cons, List.flatten_cons, ih]
    rfl)
theorem sum_ch (l : Cd) : ((l.map ch).map (·.length)).sum = l.length := by
  induction l with
  | nil => rfl
  | cons c r ih =>
    rw [List.map_cons, List.map_cons, List.sum_cons, ih, List.length_cons]
    show 1 + r.length = _
    omega
/-- one of a list that stands -/
theorem of_at {H : Hp} {b l : Addr} {n : Nat} {xs : List V} {Q : VK} (hB : Box H b n) (hn : n < 1000000) (hl : H l = some (.lst xs)) (nb : l ≠ b) (h0 : 0 < xs.length) (h1 : xs.length ≤ 10000) (q : ∀ x H', x ∈ xs → Off b H H' → Box H' b (n + 1) → Q x H') : OfW [.ref b, .ref l] H Q E0 :=
  .mk ⟨b, l, xs, n, rfl, hl, nb, hB, hn, h0, by omega, fun x u hx hB2 => q x _ hx Off.box hB2⟩
section
variable {P : Program} {w : World} {K : PySem.W.Frag} {mg : Str → Option Value} {base : Heap}
def spToken : Sp := fun vs H Q _ => ∃ (b : Addr) (n : Nat), vs = [.ref b] ∧ Box H b n ∧ n < 900000 ∧ ∀ (t : Cd) (H' : Hp), Tok t → t.length ≤ 62 → Off b H H' → Box H' b (n + 70) → Q (.str (S t)) H'
theorem ok_token {f : Addr} {fd : FuncData} (F : Fun K "_law_token" "_law_token" sToken f fd) (T : Bl K mg) (d_take : DnG P w K mg base "_law_take" 1 ["_law_box_here", "_law_many"] spTake) (d_of : DnG P w K mg base "_law_of" 2 ["_law_box_here", "_law_some"] OfW) :
    FnG P w K mg base CX0 3 f fd ["_law_box_here"] spToken := by
  refine okG0 F scTo (fun vs H Q E h => ?_) (fun cdv A outer s H vs Q E hr hG h => ?_)
  · obtain ⟨b, n, rfl, _⟩ := h
    rfl
  · obtain ⟨b, n, rfl, hB, hn, q⟩ := h
    refine ⟨_, (pss_cons (ps_set (i := 1) scTo.nd rfl (Or.inl rfl) (pe_callG d_take.ok (hr.mono (by omega)) hG (by rfl) d_take.g d_take.kp d_take.b .nil pass0 (pa_cons (pv 0) (pa_cons pe_int pa_nil))))
      (pss_cons (ps_if (pt_cmpR op_lt (pv 1) pe_int (nomark _))
        (pss_cons (ps_set (i := 2) scTo.nd rfl (Or.inl rfl) (pe_callG d_of.ok (hr.mono (by omega)) hG (by rfl) d_of.g d_of.kp d_of.b .nil pass0 (pa_cons (pv 0) (pa_cons (pe_lst (pa_cons pe_int (pa_cons pe_int (pa_cons pe_int (pa_cons pe_int (pa_cons pe_int pa_nil)))))) pa_nil))))
        (pss_one (ps_ret (pe_join pe_str (pe_lc (own := [("_law_turn", 3)]) (g := gName 3) (by rfl) scTo.nd (pi_range1 (by rfl) T.range (pa_cons (pv 2) pa_nil)) (blkOk_by (own := [("_law_turn", 3)]) (N := ["_law_box_here", "_law_sort_of", "_law_size", "_law_turn"]) (sc := defScope sToken) (by decide +kernel)) (fun _ _ _ _ _ => (pg_name (i := 3) scTo.nd rfl (Or.inl rfl))) (fun _ _ _ _ _ => pts_nil) (fun _ _ _ _ _ => (pe_callG d_of.ok (hr.mono (by omega)) hG (by rfl) d_of.g d_of.kp d_of.b .nil pass0 (pa_cons (pv 0) (pa_cons (pe_callTy (call_listS rfl) (by rfl) T.list (by decide +kernel) (pa_cons pe_str pa_nil)) pa_nil)))))))))
        pss_nil)
      (pss_cons (ps_if (pt_cmpR op_eq (pv 1) pe_int (nomark _))
        (pss_one (ps_ret (pe_callG d_of.ok (hr.mono (by omega)) hG (by rfl) d_of.g d_of.kp d_of.b .nil pass0 (pa_cons (pv 0) (pa_cons (pe_lst (pa_cons pe_str (pa_cons pe_str (pa_cons pe_str (pa_cons pe_str (pa_cons pe_str pa_nil)))))) pa_nil)))))
        pss_nil)
      (pss_cons (ps_if (pt_cmpR op_eq (pv 1) pe_int (nomark _))
        (pss_cons (ps_set (i := 2) scTo.nd rfl (Or.inl rfl) (pe_callG d_of.ok (hr.mono (by omega)) hG (by rfl) d_of.g d_of.kp d_of.b .nil pass0 (pa_cons (pv 0) (pa_cons (pe_lst (pa_cons pe_int (pa_cons pe_int (pa_cons pe_int (pa_cons pe_int pa_nil))))) pa_nil))))
        (pss_one (ps_ret (pe_op op_add_str (pe_op op_add_str pe_str (pe_join pe_str (pe_lc (own := [("_law_turn", 3)]) (g := gName 3) (by rfl) scTo.nd (pi_range1 (by rfl) T.range (pa_cons (pv 2) pa_nil)) (blkOk_by (own := [("_law_turn", 3)]) (N := ["_law_box_here", "_law_sort_of", "_law_size", "_law_turn"]) (sc := defScope sToken) (by decide +kernel)) (fun _ _ _ _ _ => (pg_name (i := 3) scTo.nd rfl (Or.inl rfl))) (fun _ _ _ _ _ => pts_nil) (fun _ _ _ _ _ => (pe_callG d_of.ok (hr.mono (by omega)) hG (by rfl) d_of.g d_of.kp d_of.b .nil pass0 (pa_cons (pv 0) (pa_cons (pe_callTy (call_listS rfl) (by rfl) T.list (by decide +kernel) (pa_cons pe_str pa_nil)) pa_nil))))))) pe_str))))
        pss_nil)
      (pss_one (ps_ret (pe_callG d_of.ok (hr.mono (by omega)) hG (by rfl) d_of.g d_of.kp d_of.b .nil pass0 (pa_cons (pv 0) (pa_cons (pe_callTy (call_listS rfl) (by rfl) T.list (by decide +kernel) (pa_cons pe_str pa_nil)) pa_nil))))))))), ?_⟩
    refine ⟨.ref b, rfl, b, 8, n, rfl, hB, by omega, by decide, by decide, fun r u r0 r1 B1 => ?_⟩
    have o1 : Off b H (upd H b u) := Off.box
    generalize upd H b u = H1 at B1 o1
    refine ⟨.int r, rfl, r, 3, rfl, rfl, _, rfl, ite2 (fun e => ?_) (fun e => ?_)⟩
    · -- a word
      refine ⟨.ref b, rfl, of_new B1 (by omega) (by decide) (by decide) fun x H2 hx o2 B2 => ?_⟩
      obtain ⟨k, rfl, k1, k2⟩ : ∃ k : Nat, x = .int k ∧ 0 < k ∧ k ≤ 60 := by
        have all : ∀ v ∈ ([.int 1, .int 2, .int 12, .int 13, .int 30] : List V), ∃ k : Nat, v = .int k ∧ 0 < k ∧ k ≤ 60 := by
          refine List.forall_mem_cons.mpr ⟨⟨1, rfl, by decide, by decide⟩, List.forall_mem_cons.mpr ⟨⟨2, rfl, by decide, by decide⟩, List.forall_mem_cons.mpr ⟨⟨12, rfl, by decide, by decide⟩, List.forall_mem_cons.mpr ⟨⟨13, rfl, by decide, by decide⟩, List.forall_mem_cons.mpr ⟨⟨30, rfl, by decide, by decide⟩, fun _ h => nomatch h⟩⟩⟩⟩⟩
        exact all _ hx
      refine ⟨⟨_, rfl⟩, .int k, rfl, k, rfl, by omega, by omega, fun D nD => ?_⟩
      refine lc_range (lo := 0) (n := k) (fun i H3 => ∃ l : Cd, l.length = i ∧ (∀ c ∈ l, c ∈ lets) ∧ Off b H2 H3 ∧ Box H3 b (n + 2 + i) ∧ H3 D = some (.lst ((l.map ch).map V.str))) ⟨[], rfl, fun _ h => (by cases h), Off.new nD, B2.new (B2.ne nD), upd_same⟩ (fun i H3 hi hP => ?_) (fun H3 hP => ?_)
      · obtain ⟨l, hl, hlet, o3, B3, hD⟩ := hP
        refine ⟨rfl, .ref b, rfl, ?_⟩
        refine of_sign B3 (by omega) (by decide +kernel) (by decide +kernel) fun c H4 hc o4 B4 => ?_
        have nDb : D ≠ b := B2.ne nD
        refine ⟨_, o4.mem nDb hD, by rw [List.length_map, List.length_map]; exact Nat.lt_of_lt_of_le (by omega : l.length < 1000) (by decide), l ++ [c], by simp [hl], fun d hd => ?_, (o3.trans o4).put nD, (B4.new nDb).mono (by omega), ?_⟩
        · rcases List.mem_append.mp hd with z | z
          · exact hlet d z
          · rw [List.mem_singleton.mp z]
            have : c ∈ cs "abnewif" := hc
            rw [show cs "abnewif" = [97, 98, 110, 101, 119, 105, 102] by decide +kernel] at this
            rw [mem_lets]
            simp at this
            omega
        · rw [upd_same]
          simp
      · obtain ⟨l, hl, hlet, o3, B3, hD⟩ := hP
        refine ⟨"", D, l.map ch, rfl, rfl, .inl (SqL.of hD), by rw [sum_ch, List.length_map]; show l.length + l.length * 0 ≤ _; omega, ?_⟩
        rw [join_ch]
        exact q l H3 (.word (fun z => by rw [z] at hl; simp at hl; omega) hlet) (by omega) ((o1.trans o2).trans o3) (B3.mono (by omega))
    · refine ⟨.int r, rfl, rfl, _, rfl, ite2 (fun e3 => ?_) (fun e3 => ?_)⟩
      · -- digits
        refine ⟨.ref b, rfl, of_new B1 (by omega) (by decide) (by decide) fun x H2 hx o2 B2 => ?_⟩
        obtain ⟨t, rfl, t1, t2⟩ : ∃ t : Cd, x = .str (S t) ∧ Tok t ∧ t.length ≤ 62 := by
          have all : ∀ v ∈ ([.str "0", .str "7", .str "10", .str "999", .str "123456789"] : List V), ∃ t : Cd, v = .str (S t) ∧ Tok t ∧ t.length ≤ 62 := by
            have one : ∀ z : Str, cs z ≠ [] → (∀ c ∈ cs z, c ∈ digs) → ((cs z).head? = some 48 → (cs z).length = 1) → (cs z).length ≤ 62 → ∃ t : Cd, V.str z = .str (S t) ∧ Tok t ∧ t.length ≤ 62 := fun z h1 h2 h3 h4 => ⟨cs z, by rw [S_cs], .num h1 h2 h3, h4⟩
            refine List.forall_mem_cons.mpr ⟨one _ (by decide +kernel) (by decide +kernel) (by decide +kernel) (by decide +kernel), List.forall_mem_cons.mpr ⟨one _ (by decide +kernel) (by decide +kernel) (by decide +kernel) (by decide +kernel), List.forall_mem_cons.mpr ⟨one _ (by decide +kernel) (by decide +kernel) (by decide +kernel) (by decide +kernel),
              List.forall_mem_cons.mpr ⟨one _ (by decide +kernel) (by decide +kernel) (by decide +kernel) (by decide +kernel), List.forall_mem_cons.mpr ⟨one _ (by decide +kernel) (by decide +kernel) (by decide +kernel) (by decide +kernel), fun _ h => nomatch h⟩⟩⟩⟩⟩
          exact all _ hx
        exact q t H2 t1 t2 (o1.trans o2) (B2.mono (by omega))
      · refine ⟨.int r, rfl, rfl, _, rfl, ite2 (fun e4 => ?_) (fun e4 => ?_)⟩
        · -- a string
          refine ⟨.ref b, rfl, of_new B1 (by omega) (by decide) (by decide) fun x H2 hx o2 B2 => ?_⟩
          obtain ⟨k, rfl, k2⟩ : ∃ k : Nat, x = .int k ∧ k ≤ 60 := by
            have all : ∀ v ∈ ([.int 0, .int 1, .int 5, .int 60] : List V), ∃ k : Nat, v = .int k ∧ k ≤ 60 := by
              refine List.forall_mem_cons.mpr ⟨⟨0, rfl, by decide⟩, List.forall_mem_cons.mpr ⟨⟨1, rfl, by decide⟩, List.forall_mem_cons.mpr ⟨⟨5, rfl, by decide⟩, List.forall_mem_cons.mpr ⟨⟨60, rfl, by decide⟩, fun _ h => nomatch h⟩⟩⟩⟩
            exact all _ hx
          refine ⟨⟨_, rfl⟩, .int k, rfl, k, rfl, by omega, by omega, fun D nD => ?_⟩
          refine lc_range (lo := 0) (n := k) (fun i H3 => ∃ l : Cd, l.length = i ∧ (∀ c ∈ l, 32 ≤ c ∧ c ≤ 126 ∧ c ≠ 34 ∧ c ≠ 92) ∧ Off b H2 H3 ∧ Box H3 b (n + 2 + i) ∧ H3 D = some (.lst ((l.map ch).map V.str))) ⟨[], rfl, fun _ h => (by cases h), Off.new nD, B2.new (B2.ne nD), upd_same⟩ (fun i H3 hi hP => ?_) (fun H3 hP => ?_)
          · obtain ⟨l, hl, hlet, o3, B3, hD⟩ := hP
            refine ⟨rfl, .ref b, rfl, ?_⟩
            refine of_sign B3 (by omega) (by decide +kernel) (by decide +kernel) fun c H4 hc o4 B4 => ?_
            have nDb : D ≠ b := B2.ne nD
            refine ⟨_, o4.mem nDb hD, by rw [List.length_map, List.length_map]; exact Nat.lt_of_lt_of_le (by omega : l.length < 1000) (by decide), l ++ [c], by simp [hl], fun d hd => ?_, (o3.trans o4).put nD, (B4.new nDb).mono (by omega), ?_⟩
            · rcases List.mem_append.mp hd with z | z
              · exact hlet d z
              · rw [List.mem_singleton.mp z]
                have : c ∈ cs "ab #{~ " := hc
                rw [show cs "ab #{~ " = [97, 98, 32, 35, 123, 126, 32] by decide +kernel] at this
                simp at this
                omega
            · rw [upd_same]
              simp
          · obtain ⟨l, hl, hlet, o3, B3, hD⟩ := hP
            refine ⟨"", D, l.map ch, rfl, rfl, .inl (SqL.of hD), by rw [sum_ch, List.length_map]; show l.length + l.length * 0 ≤ _; omega, ?_⟩
            rw [join_ch]
            refine ⟨_, _, rfl, rfl, by rw [len_S]; exact big_le (by show 1 + l.length ≤ _; omega), _, _, rfl, rfl, ?_, ?_⟩
            · rw [show ("\"" : Str) = S [34] from rfl, S_app, len_S, len_S]
              exact big_le (by simp; omega)
            · rw [show ("\"" : Str) = S [34] from rfl, S_app, S_app]
              refine q (34 :: (l ++ [34])) H3 (.str ⟨by omega, hlet⟩) (by simp; omega) ((o1.trans o2).trans o3) (B3.mono (by omega))
        · -- a sign
          refine ⟨.ref b, rfl, of_sign B1 (by omega) (by decide +kernel) (by decide +kernel) fun c H4 hc o4 B4 => ?_⟩
          exact q [c] H4 (.sign hc) (by simp) (o1.trans o4) (B4.mono (by omega))
end
end M02

set_option Elab.async false
set_option linter.all false
set_option maxRecDepth 100000
set_option maxHeartbeats 4000000
/-! _law_parts, _law_put_together -/
namespace M02
open PySem PySem.Spec PyProof.Rows L2 GL GT
theorem scPt : FnScope ["_law_box_here", "_law_page", "_law_found", "_law_ahead", "_law_turn", "_law_token_here", "_law_gap"] ["_law_box_here"] (defScope sPut) := ⟨rfl, rfl, rfl, by decide +kernel, rfl, by decide +kernel, by decide +kernel⟩
theorem if_anyH {t : TT} {a b : TE} {σ : L2.St} {H : Hp} {Q : VK} {R : V → Hp → Prop} (h : ∀ Q' : VK, (∀ v H', R v H' → Q' v H') → tIf t a b σ H Q') (q : ∀ v H', R v H' → Q v H') : tIf t a b σ H Q := h Q q
theorem Box.same {H H' : Hp} {b : Addr} {n : Nat} (h : Box H b n) (s : Same H H') : Box H' b n := by
  obtain ⟨o, m, c, h1, h2⟩ := h
  exact ⟨o, m, c, s _ _ h1, h2⟩
/-- a text that is a gap, whatever follows -/
def GapT (g : Cd) : Prop := (∀ n r qs, Lx (n + g.length) r qs → Lx n (g ++ r) qs) ∧ ∀ c, g.head? = some c → c ∉ lets ∧ c ∉ digs
theorem GapT.nil : GapT [] := ⟨fun _ _ _ h => h, fun _ h => by cases h⟩
theorem GapT.one {c : Nat} (h : c = 32 ∨ c = 10) : GapT [c] := ⟨fun _ _ _ q => .gap h q, fun d hd => by
  have : c = d := by simpa using hd
  subst this
  rw [mem_lets, mem_digs]
  omega⟩
theorem GapT.rem {b : Cd} (h : ∀ c ∈ b, c ≠ 10) : GapT (35 :: (b ++ [10])) := by
  refine ⟨fun n r qs q => ?_, fun d hd => ?_⟩
  · have e : 35 :: (b ++ [10]) ++ r = 35 :: (b ++ (10 :: r)) := by simp
    rw [e]
    refine .rem h (.inr rfl) (.gap (.inr rfl) ?_)
    rw [show n + 1 + b.length + 1 = n + (35 :: (b ++ [10])).length by simp; omega]
    exact q
  · have : 35 = d := by simpa using hd
    subst this
    rw [mem_lets, mem_digs]
    omega
theorem GapT.app {a b : Cd} (h : GapT a) (g : GapT b) : GapT (a ++ b) := by
  refine ⟨fun n r qs q => ?_, fun c hc => ?_⟩
  · rw [List.append_assoc]
    refine h.1 _ _ _ (g.1 _ _ _ ?_)
    rw [List.length_append, ← Nat.add_assoc] at q
    exact q
  · cases a with
    | nil => exact g.2 c hc
    | cons d r => exact h.2 c hc
theorem GapT.parts {g : Cd} (h : GapT g) (ne : g ≠ []) (t r : Cd) : Parts t (g ++ r) := by
  intro c d hc hd
  cases g with
  | nil => exact absurd rfl ne
  | cons e q =>
    have := h.2 c hc
    exact ⟨fun _ => this.1, fun _ => this.2⟩
/-- a text so far: its tokens, its last one -/
def Ctn (p : Cd) (ps : List (Nat × Cd)) (last : Cd) : Prop := ∀ r qs, (last = [] ∨ Parts last r) → Lx p.length r qs → Lx 0 (p ++ r) (ps ++ qs)
theorem Ctn.start {g : Cd} (h : GapT g) : Ctn g [] [] := fun r qs _ q => h.1 0 r qs (by rw [Nat.zero_add]; exact q)
theorem Ctn.gap {p g last : Cd} {ps : List (Nat × Cd)} (h : Ctn p ps last) (hg : GapT g) (ne : g ≠ []) : Ctn (p ++ g) ps [] := fun r qs _ q => by
  rw [List.append_assoc]
  refine h (g ++ r) qs (.inr (hg.parts ne last r)) (hg.1 _ _ _ ?_)
  rw [List.length_append] at q
  exact q
theorem parts_app {last t r : Cd} (h : Parts last t) (ne : t ≠ []) : Parts last (t ++ r) := fun c d hc hd => by
  refine h c d ?_ hd
  cases t with
  | nil => exact absurd rfl ne
  | cons e q => exact hc
theorem Ctn.tok {p t last : Cd} {ps : List (Nat × Cd)} (h : Ctn p ps last) (ht : Tok t) (hp : last = [] ∨ Parts last t) : Ctn (p ++ t) (ps ++ [(p.length, t)]) t := fun r qs h1 q => by
  rw [List.append_assoc, List.append_assoc]
  refine h (t ++ r) ((p.length, t) :: qs) (hp.imp id fun z => parts_app z ht.ne) (.tok ht ?_ ?_)
  · rcases h1 with z | z
    · exact absurd z ht.ne
    · exact z
  · rw [List.length_append] at q
    exact q
theorem atI_last {l : Cd} {c : Nat} (h : l.getLast? = some c) : atI l (-1) = some c := by
  have ne : l ≠ [] := fun e => by rw [e] at h; cases h
  have : 0 < l.length := List.length_pos_iff.mpr ne
  unfold atI ixN
  rw [if_neg (by omega), if_pos (by omega)]
  show l[(((-1 : Int) + (l.length : Int))).toNat]? = some c
  rw [show ((-1 : Int) + (l.length : Int)).toNat = l.length - 1 by omega, ← List.getLast?_eq_getElem?]
  exact h
section
variable {P : Program} {w : World} {K : PySem.W.Frag} {mg : Str → Option Value} {base : Heap}
def spParts : Sp := fun vs H Q _ => ∃ (a t : Cd), vs = [.str (S a), .str (S t)] ∧ a.length ≤ 1000 ∧ t.length ≤ 1000 ∧ t ≠ [] ∧ ∀ k : Bool, (k = true → a = [] ∨ Parts a t) → ∀ H', Same H H' → Q (.bl k) H'
theorem ok_parts {f : Addr} {fd : FuncData} (F : Fun K "_law_parts" "_law_parts" sParts f fd) (T : Bl K mg) : FnOk P w K mg base CX0 1 f fd ["_law_ahead", "_law_token_here"] spParts := by
  refine F.ok scPa (fun vs H Q E h => ?_) (fun cdv A outer s H vs Q E hr h => ?_)
  · obtain ⟨_, _, rfl, _⟩ := h
    rfl
  · obtain ⟨a, t, rfl, ha, htl, ht, q⟩ := h
    refine ⟨_, (pss_cons (ps_asg (pe_tup (pa_cons pe_str (pa_cons pe_str pa_nil))) (pg_tup rfl (pgs_cons (pg_name (i := 2) scPa.nd rfl (Or.inl rfl)) (pgs_cons (pg_name (i := 3) scPa.nd rfl (Or.inl rfl)) pgs_nil))))
      (pss_cons (ps_if (PW.pt (pw_or (pt_cmpR op_eq (pv 0) pe_str (nomark _)) (pw_or1 (PW.pt (pw_and (pt_cmpR op_in_sign (pe_ix ix_str (pv 0) (pe_un un_neg pe_int) (fun _ _ => rfl)) (pv 2) (by rfl)) (pw_and1 (pt_cmpR op_in_sign (pe_ix ix_str (pv 1) pe_int (fun _ _ => rfl)) (pv 2) (by rfl))))))))
        (pss_one (ps_ret (pe_cmpR op_eq (pv 0) pe_str (nomark _))))
        pss_nil)
      (pss_one (ps_ret (pe_not (pe_and (pe_cmpR op_in_sign (pe_ix ix_str (pv 0) (pe_un un_neg pe_int) (fun _ _ => rfl)) (pv 3) (by rfl)) (pe_one (pe_cmpR op_in_sign (pe_ix ix_str (pv 1) pe_int (fun _ _ => rfl)) (pv 3) (by rfl))))))))), ?_⟩
    have la : (S a).length ≤ sizeLine := by rw [len_S]; exact big_le (by omega)
    have lt : (S t).length ≤ sizeLine := by rw [len_S]; exact big_le (by omega)
    refine ⟨by show 2 ≤ sizeLine; decide, fun tp ntp => ⟨tp, _, rfl, SqT.of upd_same, rfl, _, _, rfl, _, _, rfl, rfl, ?_⟩⟩
    have sm : Same H (upd H tp (.tup [.str "abcdefghijklmnopqrstuvwxyz", .str "0123456789"])) := same_new ntp
    generalize upd H tp (.tup [.str "abcdefghijklmnopqrstuvwxyz", .str "0123456789"]) = H1 at sm
    have q : ∀ k : Bool, (k = true → a = [] ∨ Parts a t) → Q (.bl k) H1 := fun k hk => q k hk H1 sm
    refine ⟨.str (S a), rfl, rfl, _, rfl, ?_⟩
    by_cases ea : a = []
    · subst ea
      rw [show decide (V.str (S []) = V.str "") = true by decide +kernel]
      refine iteT (iteT ⟨.str (S []), rfl, rfl, ?_⟩)
      rw [show decide (V.str (S []) = V.str "") = true by decide +kernel]
      exact q true fun _ => .inl rfl
    · have e1 : decide (V.str (S a) = V.str "") = false := decide_eq_false fun z => by
        have z : S a = S [] := by injection z
        exact ea (S_inj z)
      rw [e1]
      obtain ⟨d, hd⟩ : ∃ d, a.getLast? = some d := ⟨a.getLast ea, List.getLast?_eq_some_getLast ea⟩
      obtain ⟨c, hc⟩ : ∃ c, t.head? = some c := by
        cases t with
        | nil => exact absurd rfl ht
        | cons c r => exact ⟨c, rfl⟩
      have hc0 : t[0]? = some c := by rw [← List.head?_eq_getElem?]; exact hc
      have at1 : atI (S a).cps.toList (-1) = some d := by rw [show (S a).cps.toList = a from cs_S a]; exact atI_last hd
      have mL : ∀ x, decide (x ∈ (Str.cps "abcdefghijklmnopqrstuvwxyz").toList) = decide (x ∈ lets) := fun x => rfl
      have mD : ∀ x, decide (x ∈ (Str.cps "0123456789").toList) = decide (x ∈ digs) := fun x => rfl
      refine iteF ⟨.str (S a), rfl, 1, rfl, S a, -1, d, rfl, rfl, la, at1, _, rfl, d, _, rfl, rfl, _, rfl, ?_⟩
      rw [mL]
      by_cases hdl : d ∈ lets
      · rw [decide_eq_true hdl]
        refine iteT ⟨.str (S t), rfl, S t, 0, c, rfl, rfl, lt, atS (i := 0) hc0, _, rfl, c, _, rfl, rfl, _, rfl, ?_⟩
        rw [mL]
        by_cases hcl : c ∈ lets
        · rw [decide_eq_true hcl]
          refine iteT ⟨.str (S a), rfl, rfl, ?_⟩
          rw [e1]
          exact q false fun z => by cases z
        · rw [decide_eq_false hcl]
          refine iteF ⟨.str (S a), rfl, 1, rfl, S a, -1, d, rfl, rfl, la, at1, _, rfl, d, _, rfl, rfl, _, rfl, ?_⟩
          rw [mD]
          have hdd : d ∉ digs := fun z => by
            have := mem_lets.mp hdl
            have := mem_digs.mp z
            omega
          rw [decide_eq_false hdd]
          exact iteF ⟨_, rfl, q true fun _ => .inr fun c' d' hc' hd' => by
            rw [hc] at hc'
            rw [hd] at hd'
            cases hc'
            cases hd'
            exact ⟨fun _ => hcl, fun z => absurd z hdd⟩⟩
      · rw [decide_eq_false hdl]
        refine iteF (iteF ?_)
        refine ⟨.str (S a), rfl, 1, rfl, S a, -1, d, rfl, rfl, la, at1, _, rfl, d, _, rfl, rfl, _, rfl, ?_⟩
        rw [mD]
        by_cases hdd : d ∈ digs
        · rw [decide_eq_true hdd]
          refine iteT ⟨.str (S t), rfl, S t, 0, c, rfl, rfl, lt, atS (i := 0) hc0, _, rfl, c, _, rfl, rfl, _, rfl, ?_⟩
          rw [mD]
          refine q _ fun z => .inr fun c' d' hc' hd' => ?_
          rw [hc] at hc'
          rw [hd] at hd'
          cases hc'
          cases hd'
          exact ⟨fun y => absurd y hdl, fun _ y => by rw [decide_eq_true y] at z; cases z⟩
        · rw [decide_eq_false hdd]
          exact iteF ⟨_, rfl, q true fun _ => .inr fun c' d' hc' hd' => by
            rw [hd] at hd'
            cases hd'
            exact ⟨fun y => absurd y hdl, fun y => absurd y hdd⟩⟩

def spPut : Sp := fun vs H Q _ => ∃ (b : Addr) (n : Nat), vs = [.ref b] ∧ Box H b n ∧ n < 890000 ∧ ∀ (H' : Hp) (tp D : Addr) (p : Cd) (ps : List (Nat × Cd)) (ts : List Addr), H' tp = some (.tup [.str (S p), .ref D]) → Lx 0 p ps → p.length ≤ 7000 → ps.length ≤ 80 → H' D = some (.lst (refs ts)) → D ≠ b → D ≠ sysModules →
  Tups H' ts (outV ps) → (∀ t ∈ ts, t ≠ b) → Off b H H' → Box H' b (n + 6000) → Q (.ref tp) H'
theorem ok_put {f : Addr} {fd : FuncData} (F : Fun K "_law_put_together" "_law_put_together" sPut f fd) (T : Bl K mg) (d_of : DnG P w K mg base "_law_of" 2 ["_law_box_here", "_law_some"] OfW) (d_token : DnG P w K mg base "_law_token" 3 ["_law_box_here"] spToken)
    (d_parts : DnG P w K mg base "_law_parts" 1 ["_law_ahead", "_law_token_here"] spParts) : FnG P w K mg base CX0 4 f fd ["_law_box_here"] spPut := by
  refine okG0 F scPt (fun vs H Q E h => ?_) (fun cdv A outer s H vs Q E hr hG h => ?_)
  · obtain ⟨b, n, rfl, _⟩ := h
    rfl
  · obtain ⟨b, n, rfl, hB, hn, q⟩ := h
    refine ⟨_, (pss_cons (ps_par3 (i := 1) (j := 2) (l := 3) (by rfl) scPt.nd rfl rfl rfl (by decide) (by decide) (by decide) rfl rfl rfl (pa_cons (pe_callG d_of.ok (hr.mono (by omega)) hG (by rfl) d_of.g d_of.kp d_of.b .nil pass0 (pa_cons (pv 0) (pa_cons (pe_lst (pa_cons pe_str (pa_cons pe_str (pa_cons pe_str pa_nil)))) pa_nil))) (pa_cons (pe_lstB pa_nil) (pa_cons pe_str pa_nil))) (by rfl))
      (pss_cons (ps_for PassesOwn.never rfl (pi_range1 (by rfl) T.range (pa_cons (pe_callG d_of.ok (hr.mono (by omega)) hG (by rfl) d_of.g d_of.kp d_of.b .nil pass0 (pa_cons (pv 0) (pa_cons (pe_lst (pa_cons pe_int (pa_cons pe_int (pa_cons pe_int (pa_cons pe_int pa_nil))))) pa_nil))) pa_nil)) (pg_name (i := 4) scPt.nd rfl (Or.inl rfl))
        (pss_cons (ps_set (i := 5) scPt.nd rfl (Or.inl rfl) (pe_callG d_token.ok (hr.mono (by omega)) hG (by rfl) d_token.g d_token.kp d_token.b .nil pass0 (pa_cons (pv 0) pa_nil)))
        (pss_cons (ps_set (i := 6) scPt.nd rfl (Or.inl rfl) (pe_callG d_of.ok (hr.mono (by omega)) hG (by rfl) d_of.g d_of.kp d_of.b .nil pass0 (pa_cons (pv 0) (pa_cons (pe_lst (pa_cons pe_str (pa_cons pe_str (pa_cons pe_str (pa_cons pe_str (pa_cons pe_str (pa_cons pe_str (pa_cons pe_str pa_nil)))))))) pa_nil))))
        (pss_cons (ps_set (i := 1) scPt.nd rfl (Or.inl rfl) (pe_op op_add_str (pv 1) (pe_ifExp (PW.pt (pw_or (pt_cmpR op_ne (pv 6) pe_str (nomark _)) (pw_or1 (pt_val (pe_callG d_parts.ok (hr.mono (by omega)) hG (by rfl) d_parts.g d_parts.kp d_parts.b .nil pass0 (pa_cons (pv 3) (pa_cons (pv 5) pa_nil))))))) (pv 6) pe_str)))
        (pss_cons (ps_expr (pe_bm PySem.F.plainAttrs_list PySem.F.slot_list_append PySem.F.type_list_append mt_append (pv 2) (pa_cons (pe_tup (pa_cons (pe_callB call_len_str (by rfl) T.len (by decide +kernel) (pa_cons (pv 1) pa_nil)) (pa_cons (pv 5) pa_nil))) pa_nil)))
        (pss_one (ps_par (i := 1) (j := 3) (by rfl) scPt.nd rfl rfl (by decide) rfl rfl (pa_cons (pe_op op_add_str (pv 1) (pv 5)) (pa_cons (pv 5) pa_nil)) (by rfl))))))))
      (pss_one (ps_ret (pe_tup (pa_cons (pe_op op_add_str (pv 1) (pe_callG d_of.ok (hr.mono (by omega)) hG (by rfl) d_of.g d_of.kp d_of.b .nil pass0 (pa_cons (pv 0) (pa_cons (pe_lst (pa_cons pe_str (pa_cons pe_str (pa_cons pe_str pa_nil)))) pa_nil)))) (pa_cons (pv 2) pa_nil))))))), ?_⟩
    refine ⟨.ref b, rfl, of_new hB (by omega) (by decide) (by decide) fun x H1 hx o1 B1 => ?_⟩
    obtain ⟨g0, rfl, hg0, lg0⟩ : ∃ g : Cd, x = .str (S g) ∧ GapT g ∧ g.length ≤ 20 := by
      have all : ∀ v ∈ ([.str "", .str " ", .str "# only { a remark\n"] : List V), ∃ g : Cd, v = .str (S g) ∧ GapT g ∧ g.length ≤ 20 := by
        refine List.forall_mem_cons.mpr ⟨⟨[], rfl, .nil, by decide⟩, List.forall_mem_cons.mpr ⟨⟨[32], rfl, .one (.inl rfl), by decide⟩, List.forall_mem_cons.mpr ⟨⟨35 :: (cs " only { a remark" ++ [10]), ?_, .rem (by decide +kernel), by decide +kernel⟩, fun _ h => nomatch h⟩⟩⟩
        exact congrArg V.str (str_ext (by rw [cs_S]; decide +kernel))
      exact all _ hx
    refine ⟨Nat.zero_le _, fun D nD nDs => ⟨_, _, _, rfl, ?_⟩⟩
    have nDb : D ≠ b := B1.ne nD
    have B3 := (B1.new (u := .lst []) nDb)
    have o3 : Off b H1 (upd H1 D (.lst [])) := Off.new nD
    have hD3 : (upd H1 D (.lst [])) D = some (.lst []) := upd_same
    generalize upd H1 D (.lst []) = H3 at B3 o3 hD3
    refine ⟨.ref b, rfl, of_new B3 (by omega) (by decide) (by decide) fun x H4 hx o4 B4 => ?_⟩
    obtain ⟨k, rfl, hk⟩ : ∃ k : Nat, x = .int k ∧ k ≤ 80 := by
      have all : ∀ v ∈ ([.int 0, .int 1, .int 9, .int 80] : List V), ∃ k : Nat, v = .int k ∧ k ≤ 80 := by
        refine List.forall_mem_cons.mpr ⟨⟨0, rfl, by decide⟩, List.forall_mem_cons.mpr ⟨⟨1, rfl, by decide⟩, List.forall_mem_cons.mpr ⟨⟨9, rfl, by decide⟩, List.forall_mem_cons.mpr ⟨⟨80, rfl, by decide⟩, fun _ h => nomatch h⟩⟩⟩⟩
      exact all _ hx
    have oH4 : Off b H H4 := (o1.trans o3).trans o4
    refine ⟨k, rfl, by omega, by omega, for_range (lo := 0) (n := k) (fun i σ H5 => ∃ (p last : Cd) (ps : List (Nat × Cd)) (ts : List Addr) (y4 y5 y6 : Option V), σ = [some (.ref b), some (.str (S p)), some (.ref D), some (.str (S last)), y4, y5, y6] ∧ Ctn p ps last ∧ p.length ≤ 20 + 72 * i ∧ last.length ≤ 62 ∧ ps.length = i ∧
      Off b H H5 ∧ Box H5 b (n + 2 + 71 * i) ∧ H5 D = some (.lst (refs ts)) ∧ Tups H5 ts (outV ps) ∧ ∀ t ∈ ts, t ≠ b) ⟨g0, [], [], [], none, none, none, rfl, .start hg0, by omega, by decide, rfl, oH4, B4.mono (by omega), o4.mem nDb hD3, .nil _, fun _ h => (by cases h)⟩ (fun i σ H5 hi hP => ?_) (fun σ H5 hP => ?_)⟩
    · obtain ⟨p, last, ps, ts, y4, y5, y6, rfl, hC, hp, hl, hps, o5, B5, hD, hT, hb⟩ := hP
      refine ⟨.ref b, rfl, b, _, rfl, B5, by omega, fun t H6 ht htl o6 B6 => ?_⟩
      refine ⟨.ref b, rfl, of_new B6 (by omega) (by decide) (by decide) fun x H7 hx o7 B7 => ?_⟩
      obtain ⟨g, rfl, hg, lg⟩ : ∃ g : Cd, x = .str (S g) ∧ GapT g ∧ g.length ≤ 9 := by
        have all : ∀ v ∈ ([.str "", .str "", .str " ", .str "\n", .str "  ", .str " # x: \"\n", .str "#\n#\n"] : List V), ∃ g : Cd, v = .str (S g) ∧ GapT g ∧ g.length ≤ 9 := by
          refine List.forall_mem_cons.mpr ⟨⟨[], rfl, .nil, by decide⟩, List.forall_mem_cons.mpr ⟨⟨[], rfl, .nil, by decide⟩, List.forall_mem_cons.mpr ⟨⟨[32], rfl, .one (.inl rfl), by decide⟩, List.forall_mem_cons.mpr ⟨⟨[10], rfl, .one (.inr rfl), by decide⟩, List.forall_mem_cons.mpr ⟨⟨[32] ++ [32], rfl, .app (.one (.inl rfl)) (.one (.inl rfl)), by decide⟩,
            List.forall_mem_cons.mpr ⟨⟨[32] ++ 35 :: (cs " x: \"" ++ [10]), ?_, .app (.one (.inl rfl)) (.rem (by decide +kernel)), by decide +kernel⟩, List.forall_mem_cons.mpr ⟨⟨35 :: ([] ++ [10]) ++ 35 :: ([] ++ [10]), ?_, .app (.rem (fun _ h => by cases h)) (.rem (fun _ h => by cases h)), by decide⟩, fun _ h => nomatch h⟩⟩⟩⟩⟩⟩⟩
          · exact congrArg V.str (str_ext (by rw [cs_S]; decide +kernel))
          · exact congrArg V.str (str_ext (by rw [cs_S]; decide +kernel))
        exact all _ hx
      have o57 : Off b H5 H7 := o6.trans o7
      have hD7 := o57.mem nDb hD
      have hT7 := hT.mono fun t ht' o ho => o57.mem (hb t ht') ho
      refine ⟨.str (S p), rfl, if_anyH (R := fun v H8 => Same H7 H8 ∧ ∃ g' : Cd, v = .str (S g') ∧ g'.length ≤ 9 ∧ ((g' = [] ∧ (last = [] ∨ Parts last t)) ∨ (g' ≠ [] ∧ GapT g'))) (fun Q' q' => ?_) (fun v H8 hv => ?_)⟩
      · refine ⟨.str (S g), rfl, rfl, _, rfl, ?_⟩
        by_cases eg : g = []
        · subst eg
          rw [show (!decide (V.str (S []) = V.str "")) = false by decide +kernel]
          refine iteF ⟨.str (S last), rfl, .str (S t), rfl, last, t, rfl, by omega, by omega, ht.ne, fun k hk H8 sm8 => ⟨k, rfl, ?_⟩⟩
          cases k with
          | true => exact iteT ⟨_, rfl, q' _ _ ⟨sm8, [], rfl, by decide, .inl ⟨rfl, hk rfl⟩⟩⟩
          | false => exact iteF (q' _ _ ⟨sm8, [32], rfl, by decide, .inr ⟨by simp, .one (.inl rfl)⟩⟩)
        · have e1 : (!decide (V.str (S g) = V.str "")) = true := by
            rw [decide_eq_false fun z => eg (S_inj (by injection z))]
            rfl
          rw [e1]
          exact iteT (iteT ⟨_, rfl, q' _ _ ⟨fun _ _ h => h, g, rfl, lg, .inr ⟨eg, hg⟩⟩⟩)
      · obtain ⟨sm8, g', rfl, lg', hg'⟩ := hv
        have o57 : Off b H5 H8 := o57.trans (fun a o _ h => sm8 a o h)
        have hD7 := sm8 _ _ hD7
        have hT7 := hT7.mono fun t _ o ho => sm8 _ _ ho
        have B7 := B7.same sm8
        clear o7
        generalize H8 = H7 at o57 hD7 hT7 B7
        refine ⟨_, _, rfl, rfl, by rw [len_S, len_S]; exact big_le (by omega), ?_⟩
        rw [S_app]
        have hC' : Ctn (p ++ g') ps last ∧ (last = [] ∨ Parts last t) ∨ Ctn (p ++ g') ps [] := by
          rcases hg' with ⟨rfl, h⟩ | ⟨h1, h2⟩
          · rw [List.append_nil]
            exact .inl ⟨hC, h⟩
          · exact .inr (hC.gap h2 h1)
        have hC2 : Ctn (p ++ g' ++ t) (ps ++ [((p ++ g').length, t)]) t := by
          rcases hC' with ⟨h1, h2⟩ | h1
          · exact h1.tok ht h2
          · exact h1.tok ht (.inl rfl)
        have lpg : (p ++ g').length ≤ 20 + 72 * i + 9 := by simp; omega
        generalize p ++ g' = p2 at hC2 lpg
        have lp2 : (S p2).length ≤ sizeLine := by rw [len_S]; exact big_le (by omega)
        refine ⟨.ref D, rfl, .inl ⟨rfl, _, SqL.of hD7⟩, .str (S p2), rfl, S p2, rfl, lp2, .str (S t), rfl, by show 2 ≤ sizeLine; decide, fun tp ntp => ?_⟩
        have tpb : tp ≠ b := B7.ne ntp
        have B8 := B7.new (u := .tup [.int (S p2).length, .str (S t)]) tpb
        have hD8 : (upd H7 tp (.tup [.int (S p2).length, .str (S t)])) D = some (.lst (refs ts)) := by rw [upd_ne (ne_of_none hD7 ntp)]; exact hD7
        have ltq : ts.length = ps.length := by rw [hT.1]; simp [outV]
        refine ⟨D, _, _, rfl, rfl, hD8, by rw [List.length_map]; exact Nat.lt_of_lt_of_le (by omega : ts.length < 1000) (by decide), ?_⟩
        refine ⟨.str (S p2), rfl, .str (S t), rfl, _, _, rfl, rfl, by rw [len_S, len_S]; exact big_le (by omega), .str (S t), rfl, _, _, rfl, ?_⟩
        refine ⟨p2 ++ t, t, ps ++ [(p2.length, t)], ts ++ [tp], _, _, _, by rw [S_app]; rfl, hC2, by simp; omega, htl, by simp [hps], ?_, (B8.new nDb).mono (by omega), ?_, ?_, ?_⟩
        · exact (o5.trans (o57.trans (Off.new ntp))).put (o1.none nDb nD)
        · rw [upd_same]
          simp
        · rw [outV_app]
          refine Tups.app (hT7.mono fun t' ht' o ho => ?_) (.one ?_)
          · have ntD : t' ≠ D := fun z => by
              obtain ⟨j, hj⟩ := List.getElem?_of_mem ht'
              obtain ⟨ys, hy⟩ : ∃ ys, (outV ps)[j]? = some ys := ⟨_, List.getElem?_eq_getElem (by rw [← hT.1]; exact (List.getElem?_eq_some_iff.mp hj).1)⟩
              have := hT.2 j t' ys hj hy
              rw [z, hD] at this
              cases this
            rw [upd_ne ntD, upd_ne (ne_of_none ho ntp)]
            exact ho
          · rw [upd_ne (ne_of_none hD7 ntp).symm, upd_same, len_S]
        · intro t' ht'
          rcases List.mem_append.mp ht' with z | z
          · exact hb t' z
          · rw [List.mem_singleton.mp z]
            exact tpb
    · obtain ⟨p, last, ps, ts, y4, y5, y6, rfl, hC, hp, hl, hps, o5, B5, hD, hT, hb⟩ := hP
      refine ⟨.str (S p), rfl, .ref b, rfl, of_new B5 (by omega) (by decide) (by decide) fun x H6 hx o6 B6 => ?_⟩
      obtain ⟨g, rfl, hg, lg⟩ : ∃ g : Cd, x = .str (S g) ∧ Lx 0 (p ++ g) ps ∧ g.length ≤ 9 := by
        have fin : ∀ g : Cd, (∀ n, Lx n g []) → (∀ c, g.head? = some c → c ∉ lets ∧ c ∉ digs) → Lx 0 (p ++ g) ps := fun g h1 h2 => by
          have := hC g [] (.inr fun c d hc hd => ⟨fun _ => (h2 c hc).1, fun _ => (h2 c hc).2⟩) (h1 _)
          rw [List.append_nil] at this
          exact this
        have all : ∀ v ∈ ([.str "", .str "\n", .str "# end"] : List V), ∃ g : Cd, v = .str (S g) ∧ Lx 0 (p ++ g) ps ∧ g.length ≤ 9 := by
          refine List.forall_mem_cons.mpr ⟨⟨[], rfl, fin [] (fun _ => .nil) (fun c h => by cases h), by decide⟩, List.forall_mem_cons.mpr ⟨⟨[10], rfl, fin [10] (fun _ => .gap (.inr rfl) .nil) (GapT.one (.inr rfl)).2, by decide⟩, List.forall_mem_cons.mpr ⟨⟨35 :: (cs " end" ++ []), ?_, fin _ (fun _ => .rem (by decide +kernel) (.inl rfl) .nil) (fun c h => ?_), by decide +kernel⟩, fun _ h => nomatch h⟩⟩⟩
          · exact congrArg V.str (str_ext (by rw [cs_S]; decide +kernel))
          · have : 35 = c := by simpa using h
            subst this
            rw [mem_lets, mem_digs]
            omega
        exact all _ hx
      have hD6 := o6.mem nDb hD
      refine ⟨_, _, rfl, rfl, by rw [len_S, len_S]; exact big_le (by omega), .ref D, rfl, by show 2 ≤ sizeLine; decide, fun tp ntp => ?_⟩
      rw [S_app]
      have tpb : tp ≠ b := B6.ne ntp
      refine q _ tp D (p ++ g) ps ts upd_same hg (by simp; omega) (by omega) ?_ nDb nDs ?_ hb ((o5.trans o6).trans (Off.new ntp)) ((B6.new tpb).mono (by omega))
      · rw [upd_ne (ne_of_none hD6 ntp)]
        exact hD6
      · refine hT.mono fun t' ht' o ho => ?_
        have h6 := o6.mem (hb t' ht') ho
        rw [upd_ne (ne_of_none h6 ntp)]
        exact h6
end
end M02

set_option Elab.async false
set_option linter.all false
set_option maxRecDepth 100000
set_option maxHeartbeats 1000000
/-! a list, a dict compared with an empty one -/
namespace M02
open PySem PySem.Spec PyProof.Rows L2 GL
section
variable {X : Cx}
def rEqE (K : PySem.W.Frag) (k : Bool → Bool) : V → V → Hp → VK → Prop := fun x y H Q => ∃ (a b : Addr) (xs : List V), x = .ref a ∧ y = .ref b ∧ SqL K H a xs ∧ SqL K H b [] ∧ Q (.bl (k xs.isEmpty)) H
theorem op_neE (hu : X.A.units < cLine) : OpR X (compareOp .NotEq) (rEqE X.K (!·)) := by
  intro pins s σ H x y v u Q I rx ry h
  obtain ⟨a, b, xs, rfl, rfl, h1, h2, q⟩ := h
  cases rx
  cases ry
  obtain ⟨its, r, pl, _⟩ := I.list h1
  obtain ⟨jts, r2, pl2, _⟩ := I.list h2
  cases r2
  cases r with
  | nil =>
    refine SeqAt.RcNeAt.lists (A := X.A) (s := s) (e := fun _ => true) pl.isList pl2.isList rfl hu (fun j g1 => absurd g1 (by simp)) X.prog X.w X.xe (EP X pins σ Q) ?_
    exact ⟨.bl _, H, I, rfl, q⟩
  | cons p t =>
    refine SeqAt.RcNeAt.lists_lengths (A := X.A) (s := s) pl.isList pl2.isList (by simp) hu X.prog X.w X.xe (EP X pins σ Q) ?_
    exact ⟨.bl _, H, I, rfl, q⟩
theorem op_eqE (hu : X.A.units < cLine) : OpR X (compareOp .Eq) (rEqE X.K id) := by
  intro pins s σ H x y v u Q I rx ry h
  obtain ⟨a, b, xs, rfl, rfl, h1, h2, q⟩ := h
  cases rx
  cases ry
  obtain ⟨its, r, pl, _⟩ := I.list h1
  obtain ⟨jts, r2, pl2, _⟩ := I.list h2
  cases r2
  cases r with
  | nil =>
    refine SeqAt.RcAt.lists (A := X.A) (s := s) (e := fun _ => true) pl.isList pl2.isList rfl hu (fun j g1 => absurd g1 (by simp)) X.prog X.w X.xe (EP X pins σ Q) ?_
    exact ⟨.bl _, H, I, rfl, q⟩
  | cons p t =>
    refine SeqAt.RcAt.lists_lengths (A := X.A) (s := s) pl.isList pl2.isList (by simp) hu X.prog X.w X.xe (EP X pins σ Q) ?_
    exact ⟨.bl _, H, I, rfl, q⟩
def rEqD0 (k : Bool → Bool) : V → V → Hp → VK → Prop := fun x y H Q => ∃ (a b : Addr) (ks : List (Key × V)), x = .ref a ∧ y = .ref b ∧ H a = some (.dK ks) ∧ H b = some (.dK []) ∧ Q (.bl (k ks.isEmpty)) H
theorem op_eqD0 (hu : X.A.units < cLine) : OpR X (compareOp .Eq) (rEqD0 id) := by
  intro pins s σ H x y v u Q I rx ry h
  obtain ⟨a, b, ks, rfl, rfl, ea, eb, q⟩ := h
  obtain rfl : v = Value.ref a := rx
  obtain rfl : u = Value.ref b := ry
  obtain ⟨_, ya, va, ra, da⟩ := (show ObjOk X.prog X.w H s.heap a (.dK ks) from I.hok a _ ea)
  obtain ⟨_, yb, vb, rb, db⟩ := (show ObjOk X.prog X.w H s.heap b (.dK []) from I.hok b _ eb)
  have lb : vb = [] := by cases rb; rfl
  subst lb
  have la : va.length = ks.length := ra.length.symm
  refine PySem.W.keq_eq (knd := mixKind X.prog X.w) (r := true) ya yb da db hu (fun e => ?_) (fin_bl I q ?_)
  · have : va = [] := List.length_eq_zero_iff.mp e
    rw [this]
    exact .nil
  · cases ks <;> simp [la]
theorem op_neD0 (hu : X.A.units < cLine) : OpR X (compareOp .NotEq) (rEqD0 (!·)) := by
  intro pins s σ H x y v u Q I rx ry h
  obtain ⟨a, b, ks, rfl, rfl, ea, eb, q⟩ := h
  obtain rfl : v = Value.ref a := rx
  obtain rfl : u = Value.ref b := ry
  obtain ⟨_, ya, va, ra, da⟩ := (show ObjOk X.prog X.w H s.heap a (.dK ks) from I.hok a _ ea)
  obtain ⟨_, yb, vb, rb, db⟩ := (show ObjOk X.prog X.w H s.heap b (.dK []) from I.hok b _ eb)
  have lb : vb = [] := by cases rb; rfl
  subst lb
  have la : va.length = ks.length := ra.length.symm
  refine PySem.W.keq_ne (knd := mixKind X.prog X.w) (r := true) ya yb da db hu (fun e => ?_) (fin_bl I q ?_)
  · have : va = [] := List.length_eq_zero_iff.mp e
    rw [this]
    exact .nil
  · cases ks <;> simp [la]
end
end M02

set_option Elab.async false
set_option linter.all false
set_option maxRecDepth 100000
set_option maxHeartbeats 4000000
/-! what is drawn for a project: forms in the heap; _law_plain, _law_simple, _law_value -/
namespace M02
open PySem PySem.Spec PyProof.Rows L2 GL GT
theorem scB1 : FnScope ["_law_box_here", "_law_kind"] ["_law_box_here", "_law_kind"] (defScope sPlain) := ⟨rfl, rfl, rfl, by decide +kernel, rfl, by decide +kernel, by decide +kernel⟩
theorem scB2 : FnScope ["_law_box_here", "_law_some", "_law_kind", "_law_fit", "_law_terms", "_law_turn", "_law_path", "_law_of_kind"] ["_law_box_here", "_law_some", "_law_kind"] (defScope sSimple) := ⟨rfl, rfl, rfl, by decide +kernel, rfl, by decide +kernel, by decide +kernel⟩
theorem scB3 : FnScope ["_law_box_here", "_law_some", "_law_kind", "_law_path", "_law_of_kind"] ["_law_box_here", "_law_some", "_law_kind"] (defScope sValue) := ⟨rfl, rfl, rfl, by decide +kernel, rfl, by decide +kernel, by decide +kernel⟩
/-- a thing that stands, and is not the box -/
def At (b : Addr) (H : Hp) (a : Addr) (o : HO) : Prop := a ≠ b ∧ H a = some o
theorem At.off {b a : Addr} {H H' : Hp} {o : HO} (h : At b H a o) (x : Off b H H') : At b H' a o := ⟨h.1, x a o h.1 h.2⟩
theorem At.new {b a : Addr} {H : Hp} {n : Nat} {o : HO} (hB : Box H b n) (h : H a = none) : At b (upd H a o) a o := ⟨hB.ne h, upd_same⟩
theorem At.ne {b a p : Addr} {H : Hp} {o : HO} (h : At b H a o) (np : H p = none) : a ≠ p := ne_of_none h.2 np
/-- tuples and lists stay -/
def OffT (b : Addr) (H H' : Hp) : Prop := ∀ a xs, a ≠ b → (H a = some (.tup xs) → H' a = some (.tup xs)) ∧ (H a = some (.lst xs) → H' a = some (.lst xs))
theorem Off.t {b : Addr} {H H' : Hp} (x : Off b H H') : OffT b H H' := fun a xs n => ⟨fun h => x a _ n h, fun h => x a _ n h⟩
theorem At.tt {b a : Addr} {H H' : Hp} {xs : List V} (h : At b H a (.tup xs)) (x : OffT b H H') : At b H' a (.tup xs) := ⟨h.1, (x a xs h.1).1 h.2⟩
theorem At.tl {b a : Addr} {H H' : Hp} {xs : List V} (h : At b H a (.lst xs)) (x : OffT b H H') : At b H' a (.lst xs) := ⟨h.1, (x a xs h.1).2 h.2⟩
def Wd (z : Str) : Prop := cs z ≠ [] ∧ (∀ c ∈ cs z, c ∈ lets) ∧ (cs z).length ≤ 8
/-- an int's text -/
abbrev nT (i : Int) : Str := ((toString i : String) : Str)
abbrev absI (n : Int) : Int := if n < 0 then -n else n
def NumOk (n : Int) : Prop := Tok (cs (nT (absI n))) ∧ (cs (nT (absI n))).length ≤ 8 ∧ -1000 < n ∧ n < 1000
def Lit (v : V) : Prop := (∃ z : Str, v = .str z ∧ Inn (cs z) ∧ (cs z).length ≤ 8) ∨ ∃ n : Int, v = .int n ∧ NumOk n
def PathAt (b : Addr) (H : Hp) (v : V) : Prop := ∃ (q : Addr) (ws : List Str), v = .ref q ∧ At b H q (.tup (ws.map V.str)) ∧ (ws.length = 1 ∨ ws.length = 2) ∧ ∀ w ∈ ws, Wd w
def KindS (z : Str) : Prop := z = "number" ∨ z = "text"
def PairAt (b : Addr) (H : Hp) (x : V) : Prop := ∃ (t : Addr) (q : V) (kd : Str), x = .ref t ∧ At b H t (.tup [q, .str kd]) ∧ PathAt b H q ∧ KindS kd
/-- the paths that may be read -/
def SomeAt (b : Addr) (H : Hp) (l : Addr) : Prop := ∃ xs : List V, At b H l (.lst xs) ∧ xs.length ≤ 200 ∧ ∀ x ∈ xs, PairAt b H x
def TermAt (b : Addr) (H : Hp) (x : V) : Prop := ∃ (u : Addr) (n : Int) (q : V), x = .ref u ∧ At b H u (.tup [.int n, q]) ∧ NumOk n ∧ (q = .non ∨ PathAt b H q)
def SV (b : Addr) (H : Hp) (v : V) : Prop := ∃ t : Addr, v = .ref t ∧ ((∃ x, At b H t (.tup [.str "lit", x]) ∧ Lit x) ∨ (∃ q, At b H t (.tup [.str "copy", q]) ∧ PathAt b H q) ∨
  ∃ (l : Addr) (xs : List V), At b H t (.tup [.str "sum", .ref l]) ∧ At b H l (.lst xs) ∧ xs.length ≤ 3 ∧ ∀ x ∈ xs, TermAt b H x)
def VV0 (b : Addr) (H : Hp) (v : V) : Prop := SV b H v ∨ ∃ (t : Addr) (q x y z : V), v = .ref t ∧ At b H t (.tup [.str "if", q, x, y, z]) ∧ PathAt b H q ∧ Lit x ∧ SV b H y ∧ SV b H z
section
variable {b : Addr} {H H' : Hp} (o : Off b H H')
theorem PathAt.offT {v : V} (h : PathAt b H v) (o : OffT b H H') : PathAt b H' v := let ⟨q, ws, e, a, r⟩ := h; ⟨q, ws, e, a.tt o, r⟩
theorem PairAt.offT {v : V} (h : PairAt b H v) (o : OffT b H H') : PairAt b H' v := let ⟨t, q, kd, e, a, p, r⟩ := h; ⟨t, q, kd, e, a.tt o, p.offT o, r⟩
theorem SomeAt.offT {l : Addr} (h : SomeAt b H l) (o : OffT b H H') : SomeAt b H' l := let ⟨xs, a, n, r⟩ := h; ⟨xs, a.tl o, n, fun x hx => (r x hx).offT o⟩
theorem TermAt.offT {v : V} (h : TermAt b H v) (o : OffT b H H') : TermAt b H' v := let ⟨u, n, q, e, a, p, r⟩ := h; ⟨u, n, q, e, a.tt o, p, r.imp id fun z => z.offT o⟩
theorem SV.offT {v : V} (h : SV b H v) (o : OffT b H H') : SV b H' v := by
  obtain ⟨t, e, h⟩ := h
  refine ⟨t, e, ?_⟩
  rcases h with ⟨x, a, l⟩ | ⟨q, a, p⟩ | ⟨l, xs, a, al, n, r⟩
  · exact .inl ⟨x, a.tt o, l⟩
  · exact .inr (.inl ⟨q, a.tt o, p.offT o⟩)
  · exact .inr (.inr ⟨l, xs, a.tt o, al.tl o, n, fun x hx => (r x hx).offT o⟩)
theorem VV0.offT {v : V} (h : VV0 b H v) (o : OffT b H H') : VV0 b H' v := by
  rcases h with h | ⟨t, q, x, y, z, e, a, p, l, s1, s2⟩
  · exact .inl (h.offT o)
  · exact .inr ⟨t, q, x, y, z, e, a.tt o, p.offT o, l, s1.offT o, s2.offT o⟩
theorem PathAt.off {v : V} (h : PathAt b H v) (o : Off b H H') : PathAt b H' v := h.offT o.t
theorem PairAt.off {v : V} (h : PairAt b H v) (o : Off b H H') : PairAt b H' v := h.offT o.t
theorem SomeAt.off {l : Addr} (h : SomeAt b H l) (o : Off b H H') : SomeAt b H' l := h.offT o.t
theorem TermAt.off {v : V} (h : TermAt b H v) (o : Off b H H') : TermAt b H' v := h.offT o.t
theorem SV.off {v : V} (h : SV b H v) (o : Off b H H') : SV b H' v := h.offT o.t
theorem VV0.off {v : V} (h : VV0 b H v) (o : Off b H H') : VV0 b H' v := h.offT o.t
end
theorem litS {z : Str} (h : Inn (cs z)) (l : (cs z).length ≤ 8) : Lit (.str z) := .inl ⟨z, rfl, h, l⟩
theorem numOk {n : Int} (h1 : cs (nT (absI n)) ≠ []) (h2 : ∀ c ∈ cs (nT (absI n)), c ∈ digs) (h3 : (cs (nT (absI n))).head? = some 48 → (cs (nT (absI n))).length = 1) (h4 : (cs (nT (absI n))).length ≤ 8) (h5 : -1000 < n) (h6 : n < 1000) : NumOk n := ⟨.num h1 h2 h3, h4, h5, h6⟩
theorem nums_ok : ∀ n ∈ ([0, 1, 2, 3, 5, 7, 10, 40, -1, -7, 999] : List Int), NumOk n := by
  have all : ∀ n ∈ ([0, 1, 2, 3, 5, 7, 10, 40, -1, -7, 999] : List Int), (cs (nT (absI n)) ≠ [] ∧ (∀ c ∈ cs (nT (absI n)), c ∈ digs) ∧ ((cs (nT (absI n))).head? = some 48 → (cs (nT (absI n))).length = 1) ∧ (cs (nT (absI n))).length ≤ 8) ∧ -1000 < n ∧ n < 1000 := by decide +kernel
  intro n hn
  obtain ⟨⟨h1, h2, h3, h4⟩, h5, h6⟩ := all n hn
  exact numOk h1 h2 h3 h4 h5 h6
theorem lit_texts : ∀ z ∈ (["", "x", "Ann", "Bob", "a b", "#"] : List Str), Inn (cs z) ∧ (cs z).length ≤ 8 := by
  have all : ∀ z ∈ (["", "x", "Ann", "Bob", "a b", "#"] : List Str), ((cs z).length ≤ 60 ∧ ∀ c ∈ cs z, 32 ≤ c ∧ c ≤ 126 ∧ c ≠ 34 ∧ c ≠ 92) ∧ (cs z).length ≤ 8 := by decide +kernel
  exact all
section
variable {P : Program} {w : World} {K : PySem.W.Frag} {mg : Str → Option Value} {base : Heap}
def spPlain : Sp := fun vs H Q _ => ∃ (b : Addr) (n : Nat) (kd : Str), vs = [.ref b, .str kd] ∧ Box H b n ∧ n < 1000000 ∧ ∀ (t : Addr) (x : V) (H' : Hp), At b H' t (.tup [.str "lit", x]) → Lit x → H t = none → Off b H H' → Box H' b (n + 1) → Q (.ref t) H'
theorem ok_plain {f : Addr} {fd : FuncData} (F : Fun K "_law_plain" "_law_plain" sPlain f fd) (T : Bl K mg) (d_of : DnG P w K mg base "_law_of" 2 ["_law_box_here", "_law_some"] OfW) : FnG P w K mg base CX0 3 f fd ["_law_box_here", "_law_kind"] spPlain := by
  refine okG0 F scB1 (fun vs H Q E h => ?_) (fun cdv A outer s H vs Q E hr hG h => ?_)
  · obtain ⟨_, _, _, rfl, _⟩ := h
    rfl
  · obtain ⟨b, n, kd, rfl, hB, hn, q⟩ := h
    refine ⟨_, (pss_cons (ps_if (pt_cmpR op_eq (pv 1) pe_str (nomark _))
        (pss_one (ps_ret (pe_tup (pa_cons pe_str (pa_cons (pe_callG d_of.ok (hr.mono (by omega)) hG (by rfl) d_of.g d_of.kp d_of.b .nil pass0 (pa_cons (pv 0) (pa_cons (pe_lst (pa_cons pe_str (pa_cons pe_str (pa_cons pe_str (pa_cons pe_str (pa_cons pe_str (pa_cons pe_str pa_nil))))))) pa_nil))) pa_nil)))))
        pss_nil)
      (pss_one (ps_ret (pe_tup (pa_cons pe_str (pa_cons (pe_callG d_of.ok (hr.mono (by omega)) hG (by rfl) d_of.g d_of.kp d_of.b .nil pass0 (pa_cons (pv 0) (pa_cons (pe_lst (pa_cons pe_int (pa_cons pe_int (pa_cons pe_int (pa_cons pe_int (pa_cons pe_int (pa_cons pe_int (pa_cons pe_int (pa_cons (pe_un un_neg pe_int) (pa_cons (pe_un un_neg pe_int) (pa_cons pe_int pa_nil))))))))))) pa_nil))) pa_nil)))))), ?_⟩
    refine ⟨.str kd, rfl, rfl, _, rfl, ite2 (fun e => ?_) (fun e => ?_)⟩
    · refine ⟨.ref b, rfl, of_new hB hn (by decide) (by decide) fun x H1 hx o1 B1 => ⟨by show 2 ≤ sizeLine; decide, fun t nt => ?_⟩⟩
      refine q t x _ (.new B1 nt) ?_ (o1.none (B1.ne nt) nt) (o1.trans (Off.new nt)) (B1.new (B1.ne nt))
      obtain ⟨z, hz, rfl⟩ := List.mem_map.mp (show x ∈ (["", "x", "Ann", "Bob", "a b", "#"] : List Str).map V.str from hx)
      exact litS (lit_texts z hz).1 (lit_texts z hz).2
    · refine ⟨.ref b, rfl, 1, rfl, 7, rfl, of_new (xs := [.int 0, .int 1, .int 2, .int 3, .int 5, .int 10, .int 40, .int (-1), .int (-7), .int 999]) hB hn (by decide) (by decide) fun x H1 hx o1 B1 => ⟨by show 2 ≤ sizeLine; decide, fun t nt => ?_⟩⟩
      refine q t x _ (.new B1 nt) ?_ (o1.none (B1.ne nt) nt) (o1.trans (Off.new nt)) (B1.new (B1.ne nt))
      obtain ⟨z, hz, rfl⟩ := List.mem_map.mp (show x ∈ ([0, 1, 2, 3, 5, 10, 40, -1, -7, 999] : List Int).map V.int from hx)
      exact .inr ⟨z, rfl, nums_ok z (List.Sublist.subset (by decide) hz)⟩

def spSimple : Sp := fun vs H Q _ => ∃ (b l : Addr) (n : Nat) (kd : Str), vs = [.ref b, .ref l, .str kd] ∧ Box H b n ∧ n < 900000 ∧ SomeAt b H l ∧ ∀ (v : V) (H' : Hp), SV b H' v → Off b H H' → Box H' b (n + 20) → Q v H'
theorem ok_simple {f : Addr} {fd : FuncData} (F : Fun K "_law_simple" "_law_simple" sSimple f fd) (T : Bl K mg) (d_take : DnG P w K mg base "_law_take" 1 ["_law_box_here", "_law_many"] spTake) (d_of : DnG P w K mg base "_law_of" 2 ["_law_box_here", "_law_some"] OfW)
    (d_plain : DnG P w K mg base "_law_plain" 3 ["_law_box_here", "_law_kind"] spPlain) : FnG P w K mg base CX0 4 f fd ["_law_box_here", "_law_some", "_law_kind"] spSimple := by
  refine okG0 F scB2 (fun vs H Q E h => ?_) (fun cdv A outer s H vs Q E hr hG h => ?_)
  · obtain ⟨_, _, _, _, rfl, _⟩ := h
    rfl
  · obtain ⟨b, l, n, kd, rfl, hB, hn, hS, q⟩ := h
    refine ⟨_, (pss_cons (ps_setLc (i := 3) (own := [("_law_path", 6), ("_law_of_kind", 7)]) (g := gTup K 2 (gCons (gName 6) (gCons (gName 7) gNil))) (by rfl) scB2.nd rfl rfl (sw_true rfl rfl rfl (by decide +kernel)) (pi_list (pv 1)) (blkOk_by (own := [("_law_path", 6), ("_law_of_kind", 7)]) (N := ["_law_box_here", "_law_some", "_law_kind", "_law_fit", "_law_terms", "_law_turn", "_law_path", "_law_of_kind"]) (sc := defScope sSimple) (by decide +kernel)) (fun _ _ _ _ _ => (pg_tup rfl (pgs_cons (pg_name (i := 6) scB2.nd rfl (Or.inl rfl)) (pgs_cons (pg_name (i := 7) scB2.nd rfl (Or.inl rfl)) pgs_nil)))) (fun _ _ _ _ _ => (pts_one (pt_cmpR op_eq (pv 7) (pv 2) (nomark _)))) (fun _ _ _ _ _ => (pv 6)))
      (pss_cons (ps_if (PW.pt (pw_or (pt_cmpR (op_eqE hr.units0) (pv 3) (pe_lst pa_nil) (nomark _)) (pw_or1 (pt_cmpR op_eq (pe_callG d_take.ok (hr.mono (by omega)) hG (by rfl) d_take.g d_take.kp d_take.b .nil pass0 (pa_cons (pv 0) (pa_cons pe_int pa_nil))) pe_int (nomark _)))))
        (pss_one (ps_ret (pe_callG d_plain.ok (hr.mono (by omega)) hG (by rfl) d_plain.g d_plain.kp d_plain.b .nil pass0 (pa_cons (pv 0) (pa_cons (pv 2) pa_nil)))))
        pss_nil)
      (pss_cons (ps_if (PW.pt (pw_or (pt_cmpR op_eq (pv 2) pe_str (nomark _)) (pw_or1 (pt_cmpR op_eq (pe_callG d_take.ok (hr.mono (by omega)) hG (by rfl) d_take.g d_take.kp d_take.b .nil pass0 (pa_cons (pv 0) (pa_cons pe_int pa_nil))) pe_int (nomark _)))))
        (pss_one (ps_ret (pe_tup (pa_cons pe_str (pa_cons (pe_callG d_of.ok (hr.mono (by omega)) hG (by rfl) d_of.g d_of.kp d_of.b .nil pass0 (pa_cons (pv 0) (pa_cons (pv 3) pa_nil))) pa_nil)))))
        pss_nil)
      (pss_cons (ps_set (i := 4) scB2.nd rfl (Or.inl rfl) (pe_lst (pa_cons (pe_tup (pa_cons (pe_callG d_of.ok (hr.mono (by omega)) hG (by rfl) d_of.g d_of.kp d_of.b .nil pass0 (pa_cons (pv 0) (pa_cons (pe_lst (pa_cons pe_int (pa_cons pe_int (pa_cons (pe_un un_neg pe_int) (pa_cons pe_int pa_nil))))) pa_nil))) (pa_cons (pe_callG d_of.ok (hr.mono (by omega)) hG (by rfl) d_of.g d_of.kp d_of.b .nil pass0 (pa_cons (pv 0) (pa_cons (pv 3) pa_nil))) pa_nil))) pa_nil)))
      (pss_cons (ps_for PassesOwn.never rfl (pi_range1 (by rfl) T.range (pa_cons (pe_callG d_take.ok (hr.mono (by omega)) hG (by rfl) d_take.g d_take.kp d_take.b .nil pass0 (pa_cons (pv 0) (pa_cons pe_int pa_nil))) pa_nil)) (pg_name (i := 5) scB2.nd rfl (Or.inl rfl))
        (pss_one (ps_expr (pe_bm PySem.F.plainAttrs_list PySem.F.slot_list_append PySem.F.type_list_append mt_append (pv 4) (pa_cons (pe_tup (pa_cons (pe_callG d_of.ok (hr.mono (by omega)) hG (by rfl) d_of.g d_of.kp d_of.b .nil pass0 (pa_cons (pv 0) (pa_cons (pe_lst (pa_cons pe_int (pa_cons (pe_un un_neg pe_int) (pa_cons pe_int (pa_cons pe_int pa_nil))))) pa_nil))) (pa_cons (pe_callG d_of.ok (hr.mono (by omega)) hG (by rfl) d_of.g d_of.kp d_of.b .nil pass0 (pa_cons (pv 0) (pa_cons (pe_op op_cat (pv 3) (pe_lst (pa_cons pe_non pa_nil))) pa_nil))) pa_nil))) pa_nil)))))
      (pss_one (ps_ret (pe_tup (pa_cons pe_str (pa_cons (pv 4) pa_nil)))))))))), ?_⟩
    obtain ⟨xs, hl, hxl, hxs⟩ := id hS
    refine ⟨.ref l, rfl, l, rfl, ⟨_, SqL.of hl.2⟩, fun D nD => ?_⟩
    have Db : D ≠ b := hB.ne nD
    refine lc_list (K := K) (a := l) (xs := xs) (fun i H2 => Off b H H2 ∧ Box H2 b n ∧ ∃ ys, H2 D = some (.lst ys) ∧ ys.length ≤ i ∧ ∀ y ∈ ys, PathAt b H y) ⟨Off.new nD, hB.new Db, [], upd_same, Nat.zero_le _, fun _ h => by (cases h)⟩ (fun i H2 _ hP => SqL.of (hP.1.mem hl.1 hl.2)) (fun i x H2 hx hP => ?_) (fun H2 hP => ?_)
    · obtain ⟨o2, B2, ys, hD, hyl, hys⟩ := hP
      obtain ⟨t, q', k2, rfl, at2, hq, hk2⟩ := hxs x (List.mem_of_getElem? hx)
      have hi : i < xs.length := (List.getElem?_eq_some_iff.mp hx).1
      refine ⟨t, _, rfl, SqT.of (o2.mem at2.1 at2.2), rfl, _, _, rfl, _, _, rfl, rfl, rfl, _, rfl, _, rfl, rfl, _, rfl, ?_⟩
      refine ite2 (fun e => ?_) (fun e => ?_)
      · refine ⟨_, rfl, ys, hD, Nat.lt_of_le_of_lt (by omega : ys.length ≤ 1000) (by decide), o2.put nD, B2.new Db, ys ++ [q'], upd_same, by simp; omega, fun y hy => ?_⟩
        rcases List.mem_append.mp hy with z | z
        · exact hys y z
        · rw [List.mem_singleton.mp z]
          exact hq
      · exact ⟨o2, B2, ys, hD, by omega, hys⟩
    · obtain ⟨o2, B2, ys, hD, hyl, hys⟩ := hP
      have hys2 : ∀ y ∈ ys, PathAt b H2 y := fun y hy => (hys y hy).off o2
      -- a literal
      have lit : ∀ (H3 : Hp) (m : Nat), Off b H H3 → Box H3 b m → m ≤ n + 5 → tCall spPlain [] E0 (tCons (tVar 0) (tCons (tVar 2) tNil)) [some (.ref b), some (.ref l), some (.str kd), some (.ref D), none, none, none, none] H3 Q := fun H3 m o3 B3 hm =>
        ⟨.ref b, rfl, .str kd, rfl, b, m, kd, rfl, B3, by omega, fun t x H4 a4 l4 _ o4 B4 => q _ H4 ⟨t, rfl, .inl ⟨x, a4, l4⟩⟩ (o3.trans o4) (B4.mono (by omega))⟩
      refine ⟨.ref D, rfl, Nat.zero_le _, fun e0 ne0 => ⟨D, e0, ys, rfl, rfl, SqL.of (by rw [upd_ne (ne_of_none hD ne0)]; exact hD), SqL.of upd_same, _, rfl, ?_⟩⟩
      have o3 : Off b H (upd H2 e0 (.lst [])) := o2.trans (Off.new ne0)
      have B3 := B2.new (u := .lst []) (B2.ne ne0)
      have hD3 : (upd H2 e0 (.lst [])) D = some (.lst ys) := by rw [upd_ne (ne_of_none hD ne0)]; exact hD
      generalize upd H2 e0 (.lst []) = H3 at o3 B3 hD3
      by_cases hye : ys = []
      · rw [show (id ys.isEmpty) = true by rw [hye]; rfl]
        exact iteT (iteT (lit H3 n o3 B3 (by omega)))
      · have ypos : 0 < ys.length := List.length_pos_iff.mpr hye
        rw [show (id ys.isEmpty) = false from List.isEmpty_eq_false_iff.mpr hye]
        refine iteF ⟨.ref b, rfl, b, 2, n, rfl, B3, by omega, by decide, by decide, fun r u r0 r1 B4 => ?_⟩
        have o4 : Off b H (upd H3 b u) := o3.trans Off.box
        have hD4 : (upd H3 b u) D = some (.lst ys) := by rw [upd_ne Db]; exact hD3
        generalize upd H3 b u = H4 at o4 B4 hD4
        refine ⟨rfl, _, rfl, ite2 (fun e => lit H4 _ o4 B4 (by omega)) (fun e => ?_)⟩
        -- a copy
        have copy : ∀ (H5 : Hp) (m : Nat), Off b H H5 → Box H5 b m → m ≤ n + 5 → H5 D = some (.lst ys) → tTup (tCons (tC (.str "copy")) (tCons (tCall OfW [] E0 (tCons (tVar 0) (tCons (tVar 3) tNil))) tNil)) [some (.ref b), some (.ref l), some (.str kd), some (.ref D), none, none, none, none] H5 Q := fun H5 m o5 B5 hm hD5 => by
          refine ⟨.ref b, rfl, .ref D, rfl, of_at B5 (by omega) hD5 Db ypos (by omega) fun x H6 hx o6 B6 => ⟨by show 2 ≤ sizeLine; decide, fun t nt => ?_⟩⟩
          exact q _ _ ⟨t, rfl, .inr (.inl ⟨x, .new B6 nt, (hys x hx).off (o5.trans (o6.trans (Off.new nt)))⟩)⟩ (o5.trans (o6.trans (Off.new nt))) ((B6.new (B6.ne nt)).mono (by omega))
        refine ⟨.str kd, rfl, rfl, _, rfl, ite2 (fun e => iteT (copy H4 _ o4 B4 (by omega) hD4)) (fun e => ?_)⟩
        refine ⟨.ref b, rfl, b, 4, _, rfl, B4, by omega, by decide, by decide, fun r2 u2 r20 r21 B5 => ?_⟩
        have o5 : Off b H (upd H4 b u2) := o4.trans Off.box
        have hD5 : (upd H4 b u2) D = some (.lst ys) := by rw [upd_ne Db]; exact hD4
        generalize upd H4 b u2 = H5 at o5 B5 hD5
        refine ⟨rfl, _, rfl, ite2 (fun e => copy H5 _ o5 B5 (by omega) hD5) (fun e => ?_)⟩
        -- a sum
        refine ⟨.ref b, rfl, 1, rfl, of_new (xs := [.int 2, .int 3, .int (-1), .int 10]) B5 (by omega) (by decide) (by decide) fun x H6 hx o6 B6 => ?_⟩
        have hD6 := o6.mem Db hD5
        obtain ⟨n6, rfl, hn6⟩ : ∃ m : Int, x = .int m ∧ NumOk m := by
          obtain ⟨z, hz, rfl⟩ := List.mem_map.mp (show x ∈ ([2, 3, -1, 10] : List Int).map V.int from hx)
          exact ⟨z, rfl, nums_ok z ((by decide : ∀ z ∈ ([2, 3, -1, 10] : List Int), z ∈ ([0, 1, 2, 3, 5, 7, 10, 40, -1, -7, 999] : List Int)) z hz)⟩
        refine ⟨.ref b, rfl, .ref D, rfl, of_at B6 (by omega) hD6 Db ypos (by omega) fun y H7 hy o7 B7 => ⟨by show 2 ≤ sizeLine; decide, fun u7 nu7 => ⟨by show 1 ≤ sizeLine; decide, fun L nL => ?_⟩⟩⟩
        have B8 := B7.new (u := .tup [.int n6, y]) (B7.ne nu7)
        have Lb : L ≠ b := B8.ne nL
        have B9 := B8.new (u := .lst [.ref u7]) Lb
        have o89 : Off b H7 (upd (upd H7 u7 (.tup [.int n6, y])) L (.lst [.ref u7])) := (Off.new nu7).trans (Off.new nL)
        have a7 : At b (upd (upd H7 u7 (.tup [.int n6, y])) L (.lst [.ref u7])) u7 (.tup [.int n6, y]) := (At.new B7 nu7).off (Off.new nL)
        have hL9 : (upd (upd H7 u7 (.tup [.int n6, y])) L (.lst [.ref u7])) L = some (.lst [.ref u7]) := upd_same
        have nLH : H L = none := ((o5.trans (o6.trans o7)).trans (Off.new nu7)).none Lb nL
        have o9 : Off b H (upd (upd H7 u7 (.tup [.int n6, y])) L (.lst [.ref u7])) := (o5.trans (o6.trans o7)).trans o89
        have hD9 := (o7.trans o89).mem Db hD6
        have DL : D ≠ L := ne_of_none ((Off.new nu7).mem Db (o7.mem Db hD6)) nL
        have t9 : TermAt b (upd (upd H7 u7 (.tup [.int n6, y])) L (.lst [.ref u7])) (.ref u7) := ⟨u7, n6, y, rfl, a7, hn6, .inr ((hys y hy).off o9)⟩
        generalize upd (upd H7 u7 (.tup [.int n6, y])) L (.lst [.ref u7]) = H9 at B9 o9 hL9 hD9 t9
        refine ⟨.ref b, rfl, b, 3, _, rfl, B9, by omega, by decide, by decide, fun r10 u10 r100 r101 B10 => ?_⟩
        have o10 : Off b H (upd H9 b u10) := o9.trans Off.box
        have hD10 : (upd H9 b u10) D = some (.lst ys) := by rw [upd_ne Db]; exact hD9
        have hL10 : (upd H9 b u10) L = some (.lst [.ref u7]) := by rw [upd_ne Lb]; exact hL9
        have t10 := t9.off (Off.box (u := u10))
        generalize upd H9 b u10 = H10 at o10 B10 hD10 hL10 t10
        obtain ⟨k, rfl⟩ : ∃ k : Nat, r10 = k := ⟨r10.toNat, by omega⟩
        refine ⟨k, rfl, by omega, by omega, for_range (lo := 0) (n := k) (fun i σ Hi => ∃ (y5 : Option V) (ts : List V), σ = [some (.ref b), some (.ref l), some (.str kd), some (.ref D), some (.ref L), y5, none, none] ∧ Off b H Hi ∧ Box Hi b (n + 6 + 2 * i) ∧ Hi D = some (.lst ys) ∧ Hi L = some (.lst ts) ∧ ts.length = i + 1 ∧ ∀ t ∈ ts, TermAt b Hi t)
          ⟨none, [.ref u7], rfl, o10, B10.mono (by omega), hD10, hL10, rfl, fun t ht => by rw [List.mem_singleton.mp ht]; exact t10⟩ (fun i σ Hi hi hP => ?_) (fun σ Hi hP => ?_)⟩
        · obtain ⟨y5, ts, rfl, oi, Bi, hDi, hLi, htl, hts⟩ := hP
          refine ⟨.ref L, rfl, .inl ⟨rfl, _, SqL.of hLi⟩, .ref b, rfl, 1, rfl, of_new (xs := [.int 1, .int (-1), .int 2, .int 7]) Bi (by omega) (by decide) (by decide) fun x Ha hx oa Ba => ?_⟩
          obtain ⟨na, rfl, hna⟩ : ∃ m : Int, x = .int m ∧ NumOk m := by
            obtain ⟨z, hz, rfl⟩ := List.mem_map.mp (show x ∈ ([1, -1, 2, 7] : List Int).map V.int from hx)
            exact ⟨z, rfl, nums_ok z ((by decide : ∀ z ∈ ([1, -1, 2, 7] : List Int), z ∈ ([0, 1, 2, 3, 5, 7, 10, 40, -1, -7, 999] : List Int)) z hz)⟩
          have hDa := oa.mem Db hDi
          have hLa := oa.mem Lb hLi
          refine ⟨.ref b, rfl, .ref D, rfl, by show 1 ≤ sizeLine; decide, fun e1 ne1 => ⟨D, e1, ys, [.non], rfl, rfl, by rw [upd_ne (ne_of_none hDa ne1)]; exact hDa, upd_same, big_le (by show ys.length + 1 ≤ _; omega), fun e2 ne2 => ?_⟩⟩
          have Bb := (Ba.new (u := .lst [.non]) (Ba.ne ne1))
          have e2b : e2 ≠ b := Bb.ne ne2
          have Bc := Bb.new (u := .lst (ys ++ [.non])) e2b
          have oc : Off b Ha (upd (upd Ha e1 (.lst [.non])) e2 (.lst (ys ++ [.non]))) := (Off.new ne1).trans (Off.new ne2)
          have hLc := oc.mem Lb hLa
          have hDc := oc.mem Db hDa
          have he2 : (upd (upd Ha e1 (.lst [.non])) e2 (.lst (ys ++ [.non]))) e2 = some (.lst (ys ++ [.non])) := upd_same
          generalize upd (upd Ha e1 (.lst [.non])) e2 (.lst (ys ++ [.non])) = Hc at Bc oc hLc hDc he2
          refine of_at Bc (by omega) he2 e2b (by simp) (by simp; omega) fun y Hd hy od Bd => ⟨by show 2 ≤ sizeLine; decide, fun ud nud => ?_⟩
          have ocd : Off b Hi Hd := (oa.trans oc).trans od
          have hLd := od.mem Lb hLc
          have hDd := od.mem Db hDc
          have hLe : (upd Hd ud (.tup [.int na, y])) L = some (.lst ts) := by rw [upd_ne (ne_of_none hLd nud)]; exact hLd
          refine ⟨L, ts, _, rfl, rfl, hLe, Nat.lt_of_lt_of_le (by omega : ts.length < 1000) (by decide), ?_⟩
          have oe : Off b Hi (upd Hd ud (.tup [.int na, y])) := ocd.trans (Off.new nud)
          have hyp : y = .non ∨ PathAt b H y := by
            rcases List.mem_append.mp hy with z | z
            · exact .inr (hys y z)
            · exact .inl (List.mem_singleton.mp z)
          have fin : ∀ t, TermAt b (upd Hd ud (.tup [.int na, y])) t → TermAt b (upd (upd Hd ud (.tup [.int na, y])) L (.lst (ts ++ [.ref ud]))) t := fun t ht => by
            obtain ⟨u', n', q', e', a', h1, h2⟩ := ht
            have aL : ∀ {a : Addr} {zs : List V}, At b (upd Hd ud (.tup [.int na, y])) a (.tup zs) → At b (upd (upd Hd ud (.tup [.int na, y])) L (.lst (ts ++ [.ref ud]))) a (.tup zs) := fun {a zs} h => ⟨h.1, by rw [upd_ne (fun z => by have := h.2; rw [z, hLe] at this; cases this)]; exact h.2⟩
            refine ⟨u', n', q', e', aL a', h1, h2.imp id fun hp => ?_⟩
            obtain ⟨q2, ws, e2', a2, r2⟩ := hp
            exact ⟨q2, ws, e2', aL a2, r2⟩
          refine ⟨some (.int (0 + (i : Int))), ts ++ [.ref ud], rfl, (oi.trans oe).put nLH, ((Bd.new (Bd.ne nud)).new Lb).mono (by omega), ?_, upd_same, by simp [htl], fun t ht => ?_⟩
          · have hDe : (upd Hd ud (.tup [.int na, y])) D = some (.lst ys) := by rw [upd_ne (ne_of_none hDd nud)]; exact hDd
            rw [upd_ne DL]
            exact hDe
          · rcases List.mem_append.mp ht with z | z
            · exact fin t ((hts t z).off oe)
            · rw [List.mem_singleton.mp z]
              exact fin _ ⟨ud, na, y, rfl, .new Bd nud, hna, hyp.imp id fun h => h.off (oi.trans oe)⟩
        · obtain ⟨y5, ts, rfl, oi, Bi, hDi, hLi, htl, hts⟩ := hP
          refine ⟨.ref L, rfl, by show 2 ≤ sizeLine; decide, fun t nt => ?_⟩
          have on := Off.new (b := b) (u := .tup [.str "sum", .ref L]) nt
          exact q _ _ ⟨t, rfl, .inr (.inr ⟨L, ts, .new Bi nt, ⟨Lb, on.mem Lb hLi⟩, by omega, fun x hx => (hts x hx).off on⟩)⟩ (oi.trans on) ((Bi.new (Bi.ne nt)).mono (by omega))
end
end M02

set_option Elab.async false
set_option linter.all false
set_option maxRecDepth 100000
set_option maxHeartbeats 4000000
/-! kinds of fields; _law_value, _law_paths -/
namespace M02
open PySem PySem.Spec PyProof.Rows L2 GL GT
theorem scB4 : FnScope ["_law_book_here", "_law_kinds", "_law_found", "_law_field", "_law_kind", "_law_inner", "_law_other", "_law_of_kind"] ["_law_book_here", "_law_kinds"] (defScope sPaths) := ⟨rfl, rfl, rfl, by decide +kernel, rfl, by decide +kernel, by decide +kernel⟩
theorem u1 {k : Nat} {A : Around} (r : Room k A) : A.units + 1 < cLine := by have := r.un; omega
theorem kSS : kitB "str" "str" = some true := by decide +kernel
theorem kTS : kitB "tuple" "str" = some false := by decide +kernel
/-- the kind of a field: known of its ranks -/
def KindOk (b : Addr) (H : Hp) (kk : List (Key × V)) (rk : Addr → Nat) (r : Nat) (p : Key × V) : Prop := ∃ z : Str, p.1 = .inr z ∧ Wd z ∧ ((∃ kd : Str, p.2 = .str kd ∧ KindS kd) ∨
  ∃ (t : Addr) (w nm : Str) (d : Addr), p.2 = .ref t ∧ At b H t (.tup [.str w, .str nm]) ∧ (w = "record" ∨ w = "rows") ∧ Wd nm ∧ valV kk (.inr nm) = some (.ref d) ∧ rk d < r)
/-- the kinds of all templates whose rank is less than m -/
def BookK (b : Addr) (H : Hp) (kk : List (Key × V)) (rk : Addr → Nat) (m : Nat) : Prop := ∀ (nm : Str) (d : Addr), valV kk (.inr nm) = some (.ref d) → rk d < m → ∃ fs : List (Key × V), At b H d (.dK fs) ∧ fs.length ≤ 4 ∧ ∀ p ∈ fs, KindOk b H kk rk (rk d) p
def BookB (b : Addr) (H : Hp) (B lD tD kD : Addr) : Prop := At b H B (.dK [(.inr "lists", .ref lD), (.inr "templates", .ref tD), (.inr "kinds", .ref kD)])
theorem kne {a b : Str} (h : a ≠ b) : ¬ (Sum.inr a : Key) = .inr b := fun e => h (by injection e)
theorem book_kinds {l t k : V} : valV ([(.inr "lists", l), (.inr "templates", t), (.inr "kinds", k)] : List (Key × V)) (.inr "kinds") = some k := (valV_neg (kne (by decide +kernel))).trans ((valV_neg (kne (by decide +kernel))).trans (valV_pos rfl))
theorem book_temps {l t k : V} : valV ([(.inr "lists", l), (.inr "templates", t), (.inr "kinds", k)] : List (Key × V)) (.inr "templates") = some t := (valV_neg (kne (by decide +kernel))).trans (valV_pos rfl)
theorem book_lists {l t k : V} : valV ([(.inr "lists", l), (.inr "templates", t), (.inr "kinds", k)] : List (Key × V)) (.inr "lists") = some l := valV_pos rfl
section
variable {b : Addr} {H H' : Hp} {kk : List (Key × V)} {rk : Addr → Nat} {m r : Nat}
theorem KindOk.offT {p : Key × V} (h : KindOk b H kk rk r p) (o : OffT b H H') : KindOk b H' kk rk r p := by
  obtain ⟨z, e, hz, h⟩ := h
  refine ⟨z, e, hz, h.imp id ?_⟩
  rintro ⟨t, w, nm, d, e2, a, hr⟩
  exact ⟨t, w, nm, d, e2, a.tt o, hr⟩
theorem KindOk.mono {p : Key × V} {r' : Nat} (h : KindOk b H kk rk r p) (le : r ≤ r') : KindOk b H kk rk r' p := by
  obtain ⟨z, e, hz, h⟩ := h
  refine ⟨z, e, hz, h.imp id ?_⟩
  rintro ⟨t, w, nm, d, e2, a, h1, h2, h3, h4⟩
  exact ⟨t, w, nm, d, e2, a, h1, h2, h3, by omega⟩
theorem BookK.off (h : BookK b H kk rk m) (o : Off b H H') : BookK b H' kk rk m := fun nm d e hr => by
  obtain ⟨fs, a, l, hp⟩ := h nm d e hr
  exact ⟨fs, a.off o, l, fun p hp' => (hp p hp').offT o.t⟩
theorem BookK.mono {m' : Nat} (h : BookK b H kk rk m) (le : m' ≤ m) : BookK b H kk rk m' := fun nm d e hr => h nm d e (by omega)
/-- a dict that is none of them may be locked, unlocked, changed -/
theorem offT_dict {d : Addr} {ks : List (Key × V)} {u : HO} (hd : H d = some (.dK ks)) : OffT b H (upd H d u) := fun a xs _ => ⟨fun h => by rw [upd_ne (fun e => by rw [e, hd] at h; cases h)]; exact h, fun h => by rw [upd_ne (fun e => by rw [e, hd] at h; cases h)]; exact h⟩
theorem offT_frz {d : Addr} {f : Obj} {ks : List (Key × V)} {u : HO} (hd : H d = some (.frz f (.dK ks))) : OffT b H (upd H d u) := fun a xs _ => ⟨fun h => by rw [upd_ne (fun e => by rw [e, hd] at h; cases h)]; exact h, fun h => by rw [upd_ne (fun e => by rw [e, hd] at h; cases h)]; exact h⟩
theorem OffT.trans {H2 : Hp} (x : OffT b H H') (y : OffT b H' H2) : OffT b H H2 := fun a xs n => ⟨fun h => (y a xs n).1 ((x a xs n).1 h), fun h => (y a xs n).2 ((x a xs n).2 h)⟩
theorem BookK.put {d : Addr} {u : HO} (h : BookK b H kk rk m) (t : OffT b H (upd H d u)) (ne : ∀ nm d', valV kk (.inr nm) = some (.ref d') → rk d' < m → d' ≠ d) : BookK b (upd H d u) kk rk m := fun nm d' e hr => by
  obtain ⟨fs, a, l, hp⟩ := h nm d' e hr
  exact ⟨fs, ⟨a.1, by rw [upd_ne (ne nm d' e hr)]; exact a.2⟩, l, fun p hp' => (hp p hp').offT t⟩
end
section
variable {P : Program} {w : World} {K : PySem.W.Frag} {mg : Str → Option Value} {base : Heap}
def spValue : Sp := fun vs H Q _ => ∃ (b l : Addr) (n : Nat) (kd : Str), vs = [.ref b, .ref l, .str kd] ∧ Box H b n ∧ n < 890000 ∧ SomeAt b H l ∧ ∀ (v : V) (H' : Hp), VV0 b H' v → Off b H H' → Box H' b (n + 50) → Q v H'
theorem ok_value {f : Addr} {fd : FuncData} (F : Fun K "_law_value" "_law_value" sValue f fd) (T : Bl K mg) (d_take : DnG P w K mg base "_law_take" 1 ["_law_box_here", "_law_many"] spTake) (d_of : DnG P w K mg base "_law_of" 2 ["_law_box_here", "_law_some"] OfW)
    (d_plain : DnG P w K mg base "_law_plain" 3 ["_law_box_here", "_law_kind"] spPlain) (d_simple : DnG P w K mg base "_law_simple" 4 ["_law_box_here", "_law_some", "_law_kind"] spSimple) : FnG P w K mg base CX0 5 f fd ["_law_box_here", "_law_some", "_law_kind"] spValue := by
  refine okG0 F scB3 (fun vs H Q E h => ?_) (fun cdv A outer s H vs Q E hr hG h => ?_)
  · obtain ⟨_, _, _, _, rfl, _⟩ := h
    rfl
  · obtain ⟨b, l, n, kd, rfl, hB, hn, hS, q⟩ := h
    refine ⟨_, (pss_cons (ps_if (PW.pt (pw_or (pt_cmpR (op_eqE hr.units0) (pv 1) (pe_lst pa_nil) (nomark _)) (pw_or1 (pt_cmpR op_gt (pe_callG d_take.ok (hr.mono (by omega)) hG (by rfl) d_take.g d_take.kp d_take.b .nil pass0 (pa_cons (pv 0) (pa_cons pe_int pa_nil))) pe_int (nomark _)))))
        (pss_one (ps_ret (pe_callG d_simple.ok (hr.mono (by omega)) hG (by rfl) d_simple.g d_simple.kp d_simple.b .nil pass0 (pa_cons (pv 0) (pa_cons (pv 1) (pa_cons (pv 2) pa_nil))))))
        pss_nil)
      (pss_cons (ps_asg (pe_callG d_of.ok (hr.mono (by omega)) hG (by rfl) d_of.g d_of.kp d_of.b .nil pass0 (pa_cons (pv 0) (pa_cons (pv 1) pa_nil))) (pg_tup rfl (pgs_cons (pg_name (i := 3) scB3.nd rfl (Or.inl rfl)) (pgs_cons (pg_name (i := 4) scB3.nd rfl (Or.inl rfl)) pgs_nil))))
      (pss_one (ps_ret (pe_tup (pa_cons pe_str (pa_cons (pv 3) (pa_cons (pe_ix (r := rIxT K) ix_tup (pe_callG d_plain.ok (hr.mono (by omega)) hG (by rfl) d_plain.g d_plain.kp d_plain.b .nil pass0 (pa_cons (pv 0) (pa_cons (pv 4) pa_nil))) pe_int (fun _ _ => rfl)) (pa_cons (pe_callG d_simple.ok (hr.mono (by omega)) hG (by rfl) d_simple.g d_simple.kp d_simple.b .nil pass0 (pa_cons (pv 0) (pa_cons (pv 1) (pa_cons (pv 2) pa_nil)))) (pa_cons (pe_callG d_simple.ok (hr.mono (by omega)) hG (by rfl) d_simple.g d_simple.kp d_simple.b .nil pass0 (pa_cons (pv 0) (pa_cons (pv 1) (pa_cons (pv 2) pa_nil)))) pa_nil)))))))))), ?_⟩
    obtain ⟨xs, hl, hxl, hxs⟩ := id hS
    refine ⟨.ref l, rfl, Nat.zero_le _, fun e0 ne0 => ⟨l, e0, xs, rfl, rfl, SqL.of (by rw [upd_ne (hl.ne ne0)]; exact hl.2), SqL.of upd_same, _, rfl, ?_⟩⟩
    have o1 : Off b H (upd H e0 (.lst [])) := Off.new ne0
    have B1 := hB.new (u := .lst []) (hB.ne ne0)
    generalize upd H e0 (.lst []) = H1 at o1 B1
    have simple : ∀ (H3 : Hp) (m : Nat), Off b H H3 → Box H3 b m → m ≤ n + 5 → tCall spSimple [] E0 (tCons (tVar 0) (tCons (tVar 1) (tCons (tVar 2) tNil))) [some (.ref b), some (.ref l), some (.str kd), none, none] H3 Q := fun H3 m o3 B3 hm =>
      ⟨.ref b, rfl, .ref l, rfl, .str kd, rfl, b, l, m, kd, rfl, B3, by omega, hS.off o3, fun v H4 sv o4 B4 => q v H4 (.inl sv) (o3.trans o4) (B4.mono (by omega))⟩
    by_cases hxe : xs = []
    · rw [show (id xs.isEmpty) = true by rw [hxe]; rfl]
      exact iteT (iteT (simple H1 n o1 B1 (by omega)))
    · rw [show (id xs.isEmpty) = false from List.isEmpty_eq_false_iff.mpr hxe]
      refine iteF ⟨.ref b, rfl, b, 5, n, rfl, B1, by omega, by decide, by decide, fun r u r0 r1 B2 => ?_⟩
      have o2 : Off b H (upd H1 b u) := o1.trans Off.box
      generalize upd H1 b u = H2 at o2 B2
      refine ⟨r, 0, rfl, rfl, _, rfl, ite2 (fun e => simple H2 _ o2 B2 (by omega)) (fun e => ?_)⟩
      have hl2 := hl.off o2
      refine ⟨.ref b, rfl, .ref l, rfl, of_at B2 (by omega) hl2.2 hl2.1 (List.length_pos_iff.mpr hxe) (by omega) fun x H3 hx o3 B3 => ?_⟩
      obtain ⟨t, q', k2, rfl, at2, hq, hk2⟩ := (hxs x hx).off (o2.trans o3)
      refine ⟨t, _, rfl, SqT.of at2.2, rfl, _, _, rfl, _, _, rfl, rfl, ?_⟩
      refine ⟨_, rfl, .ref b, rfl, .str k2, rfl, b, _, k2, rfl, B3, by omega, fun t4 x4 H4 a4 l4 n4 o4 B4 => ?_⟩
      refine ⟨t4, _, 1, x4, rfl, rfl, SqT.of a4.2, rfl, ?_⟩
      have o04 : Off b H H4 := (o2.trans o3).trans o4
      refine ⟨.ref b, rfl, .ref l, rfl, .str kd, rfl, b, l, _, kd, rfl, B4, by omega, hS.off o04, fun v5 H5 sv5 o5 B5 => ?_⟩
      refine ⟨.ref b, rfl, .ref l, rfl, .str kd, rfl, b, l, _, kd, rfl, B5, by omega, hS.off (o04.trans o5), fun v6 H6 sv6 o6 B6 => ⟨by show 5 ≤ sizeLine; decide, fun tp ntp => ?_⟩⟩
      have on := Off.new (b := b) (u := .tup [.str "if", q', x4, v5, v6]) ntp
      exact q _ _ (.inr ⟨tp, q', x4, v5, v6, rfl, .new B6 ntp, hq.off (((o4.trans o5).trans o6).trans on), l4, sv5.off (o6.trans on), sv6.off on⟩) (((o04.trans o5).trans o6).trans on) ((B6.new (B6.ne ntp)).mono (by omega))

def spPaths : Sp := fun vs H Q _ => ∃ (b B lD tD kD d : Addr) (kk fs : List (Key × V)) (rk : Addr → Nat) (m : Nat), vs = [.ref B, .ref d] ∧ BookB b H B lD tD kD ∧ At b H kD (.dK kk) ∧ BookK b H kk rk m ∧ At b H d (.dK fs) ∧ fs.length ≤ 7 ∧ (∀ p ∈ fs, KindOk b H kk rk m p) ∧
  d ≠ B ∧ d ≠ kD ∧ (∀ nm d', valV kk (.inr nm) = some (.ref d') → rk d' < m → d' ≠ d ∧ d' ≠ B ∧ d' ≠ kD) ∧ (∃ o, H b = some o) ∧ ∀ (H' : Hp) (l : Addr), Same H H' → SomeAt b H' l → H l = none → (∀ xs, H' l = some (.lst xs) → xs.length ≤ 28) → Q (.ref l) H'
theorem ok_paths {f : Addr} {fd : FuncData} (F : Fun K "_law_paths" "_law_paths" sPaths f fd) (T : Bl K mg) : FnG P w K mg base CX0 1 f fd ["_law_book_here", "_law_kinds"] spPaths := by
  refine okG0 F scB4 (fun vs H Q E h => ?_) (fun cdv A outer s H vs Q E hr hG h => ?_)
  · obtain ⟨_, _, _, _, _, _, _, _, _, _, rfl, _⟩ := h
    rfl
  · obtain ⟨b, B, lD, tD, kD, d, kk, fs, rk, m, rfl, hBB, hkD, hBK, hd, hfl, hfs, dB, dk, hne, ⟨ob, hob⟩, q⟩ := h
    refine ⟨_, (pss_cons (ps_set (i := 2) scB4.nd rfl (Or.inl rfl) (pe_lst pa_nil))
      (pss_cons (ps_lock (ps_for PassesOwn.never rfl (pi_items (pv 1)) (pg_tup rfl (pgs_cons (pg_name (i := 3) scB4.nd rfl (Or.inr rfl)) (pgs_cons (pg_name (i := 4) scB4.nd rfl (Or.inl rfl)) pgs_nil)))
        (pss_one (ps_if (pt_val (pe_callB call_isi (by rfl) T.isinstance (by decide +kernel) (pa_cons (pv 4) (pa_cons (pe_bltn (v := .ty "str") (by rfl) T.str (by decide +kernel) rfl) pa_nil))))
          (pss_one (ps_expr (pe_bm PySem.F.plainAttrs_list PySem.F.slot_list_append PySem.F.type_list_append mt_append (pv 2) (pa_cons (pe_tup (pa_cons (pe_tup (pa_cons (pv 3) pa_nil)) (pa_cons (pv 4) pa_nil))) pa_nil))))
          (pss_one (ps_if (pt_cmpR op_eq (pe_ix (r := rIxT K) ix_tup (pv 4) pe_int (fun _ _ => rfl)) pe_str (nomark _))
            (pss_cons (ps_set (i := 5) scB4.nd rfl (Or.inl rfl) (pe_dget (u1 hr) (pe_dget (u1 hr) (pv 0) pe_str (fun _ _ => rfl)) (pe_ix (r := rIxT K) ix_tup (pv 4) pe_int (fun _ _ => rfl)) (fun _ _ => rfl)))
            (pss_one (ps_expr (pe_bm PySem.F.plainAttrs_list PySem.F.slot_list_extend PySem.F.type_list_extend mt_extend (pv 2) (pa_cons (pe_lock (pe_lc (own := [("_law_other", 6), ("_law_of_kind", 7)]) (g := gTup K 2 (gCons (gName 6) (gCons (gName 7) gNil))) (by rfl) scB4.nd (pi_items (pv 5)) (blkOk_by (own := [("_law_other", 6), ("_law_of_kind", 7)]) (N := ["_law_book_here", "_law_kinds", "_law_found", "_law_field", "_law_kind", "_law_inner", "_law_other", "_law_of_kind"]) (sc := defScope sPaths) (by decide +kernel)) (fun _ _ _ _ _ => (pg_tup rfl (pgs_cons (pg_name (i := 6) scB4.nd rfl (Or.inl rfl)) (pgs_cons (pg_name (i := 7) scB4.nd rfl (Or.inl rfl)) pgs_nil)))) (fun _ _ _ _ _ => (pts_one (pt_val (pe_callB (r := rIsi K) call_isi (by rfl) T.isinstance (by decide +kernel) (pa_cons (pv 7) (pa_cons (pe_bltn (v := .ty "str") (by rfl) T.str (by decide +kernel) rfl) pa_nil)))))) (fun _ _ _ _ _ => (pe_tup (pa_cons (pe_tup (pa_cons (pv 3) (pa_cons (pv 6) pa_nil))) (pa_cons (pv 7) pa_nil)))))) pa_nil)))))
            pss_nil))))))
      (pss_one (ps_ret (pv 2))))), ?_⟩
    refine ⟨Nat.zero_le _, fun L nL => ?_⟩
    have Lb : L ≠ b := (ne_of_none hob nL).symm
    have oL : Off b H (upd H L (.lst [])) := Off.new nL
    have hd1 := hd.off oL
    refine ⟨d, .dK fs, hd1.2, trivial, fun od => ?_⟩
    have hL1 : (upd (upd H L (.lst [])) d (.frz od (.dK fs))) L = some (.lst []) := by rw [upd_ne (hd.ne nL).symm]; exact upd_same
    have hd2 : (upd (upd H L (.lst [])) d (.frz od (.dK fs))) d = some (.frz od (.dK fs)) := upd_same
    have t2 : OffT b H (upd (upd H L (.lst [])) d (.frz od (.dK fs))) := oL.t.trans (offT_dict hd1.2)
    -- what stays while the dict is locked
    have keep2 : ∀ a o, a ≠ d → H a = some o → (upd (upd H L (.lst [])) d (.frz od (.dK fs))) a = some o := fun a o na h => by
      rw [upd_ne na, upd_ne (ne_of_none h nL)]
      exact h
    generalize hH2 : upd (upd H L (.lst [])) d (.frz od (.dK fs)) = H2 at hL1 hd2 t2 keep2
    refine ⟨.ref d, rfl, d, od, fs, rfl, hd2, for_it (walk_items (kvs := fs)) (fun i σ Hi => ∃ (y3 y4 y5 : Option V) (xs : List V), σ = [some (.ref B), some (.ref d), some (.ref L), y3, y4, y5, none, none] ∧ (∀ a o, a ≠ d → H a = some o → Hi a = some o) ∧ Hi d = some (.frz od (.dK fs)) ∧ OffT b H Hi ∧ Hi L = some (.lst xs) ∧ xs.length ≤ 4 * i ∧ ∀ x ∈ xs, PairAt b Hi x)
      ⟨none, none, none, [], rfl, keep2, hd2, t2, hL1, Nat.zero_le _, fun _ h => by (cases h)⟩ (fun i σ Hi _ hP => by obtain ⟨_, _, _, _, _, _, h, _⟩ := hP; exact h) (fun i x σ Hi Hi' hi hP hY => ?_) (fun σ Hi hP => ?_)⟩
    · obtain ⟨y3, y4, y5, xs, rfl, hk, hdi, ti, hLi, hxl, hxs⟩ := hP
      obtain ⟨Tp, x1, x2, rfl, nT, rfl, e1, e2⟩ := hY
      obtain ⟨⟨k, v⟩, hkv⟩ : ∃ p, fs[i]? = some p := ⟨_, List.getElem?_eq_getElem hi⟩
      have e1 : (fs[i]?.map fun kv => kV kv.1) = some x1 := e1
      have e2 : (fs[i]?.map Prod.snd) = some x2 := e2
      rw [hkv] at e1 e2
      cases e1
      cases e2
      obtain ⟨z, hz, hzw, hkind⟩ := hfs _ (List.mem_of_getElem? hkv)
      have hz : k = .inr z := hz
      subst hz
      have hLT : (upd Hi Tp (.tup [kV (.inr z), v])) L = some (.lst xs) := by rw [upd_ne (ne_of_none hLi nT)]; exact hLi
      have oT : Off b Hi (upd Hi Tp (.tup [kV (.inr z), v])) := Off.new nT
      have hkT : ∀ a o, a ≠ d → H a = some o → (upd Hi Tp (.tup [kV (.inr z), v])) a = some o := fun a o na h => by
        have := hk a o na h
        rw [upd_ne (ne_of_none this nT)]
        exact this
      have hdT : (upd Hi Tp (.tup [kV (.inr z), v])) d = some (.frz od (.dK fs)) := by rw [upd_ne (ne_of_none hdi nT)]; exact hdi
      refine ⟨Tp, _, rfl, SqT.of upd_same, rfl, _, _, rfl, _, _, rfl, rfl, ?_⟩
      generalize upd Hi Tp (.tup [kV (.inr z), v]) = Hj at hLT oT hkT hdT
      have tj : OffT b H Hj := ti.trans oT.t
      have hxsj : ∀ x ∈ xs, PairAt b Hj x := fun x hx => (hxs x hx).off oT
      have hob' : Hj b = some ob := hkT b ob (by exact (hd.1).symm) hob
      -- a new thing in the list
      have grow : ∀ (Ha : Hp) (ys : List V), Same Hj Ha → Ha L = some (.lst xs) → (∀ y ∈ ys, PairAt b Ha y) → ys.length ≤ 4 → (∃ (y3 y4 y5 : Option V) (xs' : List V), [some (.ref B), some (.ref d), some (.ref L), y3, y4, y5, none, none] = [some (.ref B), some (.ref d), some (.ref L), y3, y4, y5, (none : Option V), none] ∧ (∀ a o, a ≠ d → H a = some o → (upd Ha L (.lst (xs ++ ys))) a = some o) ∧ (upd Ha L (.lst (xs ++ ys))) d = some (.frz od (.dK fs)) ∧ OffT b H (upd Ha L (.lst (xs ++ ys))) ∧ (upd Ha L (.lst (xs ++ ys))) L = some (.lst xs') ∧ xs'.length ≤ 4 * (i + 1) ∧ ∀ x ∈ xs', PairAt b (upd Ha L (.lst (xs ++ ys))) x) := fun Ha ys sa hLa hys hyl => by
        have aL : ∀ {a : Addr} {zs : List V}, At b Ha a (.tup zs) → At b (upd Ha L (.lst (xs ++ ys))) a (.tup zs) := fun {a zs} h => ⟨h.1, by rw [upd_ne (fun e => by have := h.2; rw [e, hLa] at this; cases this)]; exact h.2⟩
        have k0 : ∀ a o, a ≠ d → H a = some o → (upd Ha L (.lst (xs ++ ys))) a = some o := fun a o na h => by
          rw [upd_ne (ne_of_none h nL)]
          exact sa _ _ (hkT a o na h)
        refine ⟨none, none, none, xs ++ ys, rfl, k0, ?_, fun a ws na => ⟨fun h => k0 a _ (fun e => by rw [e, hd.2] at h; cases h) h, fun h => k0 a _ (fun e => by rw [e, hd.2] at h; cases h) h⟩, upd_same, by simp; omega, fun y hy => ?_⟩
        · rw [upd_ne (hd.ne nL)]
          exact sa _ _ hdT
        · have hp : PairAt b Ha y := by
            rcases List.mem_append.mp hy with z | z
            · exact (hxsj y z).off (fun a o _ h => sa a o h)
            · exact hys y z
          obtain ⟨t, q', kd, e, a, ⟨q2, ws, e2, a2, r2⟩, r⟩ := hp
          exact ⟨t, q', kd, e, aL a, ⟨q2, ws, e2, aL a2, r2⟩, r⟩
      rcases hkind with ⟨kd, hv, hkd⟩ | ⟨t, w', nm, d', hv, at', hw', hnm, hval, hrk⟩
      · -- a number or a text
        have hv : v = .str kd := hv
        subst hv
        refine ⟨.str kd, rfl, .str kd, .ty "str", _, _, true, rfl, .ty "str", .base (.str kd), kit_ty kSS, true, rfl, ?_⟩
        refine iteT ⟨.ref L, rfl, .inl ⟨rfl, _, SqL.of hLT⟩, .str z, rfl, by show 1 ≤ sizeLine; decide, fun q1 nq1 => ⟨.str kd, rfl, by show 2 ≤ sizeLine; decide, fun t1 nt1 => ?_⟩⟩
        have s1 : Same Hj (upd Hj q1 (.tup [.str z])) := same_new nq1
        have s2 : Same Hj (upd (upd Hj q1 (.tup [.str z])) t1 (.tup [.ref q1, .str kd])) := fun a o h => same_new nt1 _ _ (s1 _ _ h)
        have q1b : q1 ≠ b := (ne_of_none hob' nq1).symm
        have t1b : t1 ≠ b := (ne_of_none (s1 _ _ hob') nt1).symm
        refine ⟨L, xs, _, rfl, rfl, s2 _ _ hLT, Nat.lt_of_le_of_lt (by omega : xs.length ≤ 1000) (by decide), ?_⟩
        have hpair : ∀ y ∈ [V.ref t1], PairAt b (upd (upd Hj q1 (.tup [.str z])) t1 (.tup [.ref q1, .str kd])) y := fun y hy => by
          rw [List.mem_singleton.mp hy]
          exact ⟨t1, .ref q1, kd, rfl, ⟨t1b, upd_same⟩, ⟨q1, [z], rfl, ⟨q1b, by rw [upd_ne (ne_of_none upd_same nt1)]; exact upd_same⟩, .inl rfl, fun w hw => by rw [List.mem_singleton.mp hw]; exact hzw⟩, hkd⟩
        obtain ⟨_, _, _, xs', _, h⟩ := grow _ [.ref t1] s2 (s2 _ _ hLT) hpair (by simp)
        exact ⟨_, _, _, xs', rfl, h⟩
      · have hv : v = .ref t := hv
        subst hv
        have at2 := at'.tt tj
        refine ⟨.ref t, rfl, .ref t, .ty "str", _, _, false, rfl, .ty "str", .base (.tup at2.2), kit_ty kTS, false, rfl, ?_⟩
        refine iteF ⟨.ref t, rfl, t, _, 0, _, rfl, rfl, SqT.of at2.2, rfl, rfl, _, rfl, ?_⟩
        rcases hw' with rfl | rfl
        · -- a record
          rw [show decide (V.str "record" = V.str "record") = true by decide +kernel]
          obtain ⟨gs, hg, hgl, hgs⟩ := hBK nm d' hval hrk
          obtain ⟨n1, n2, n3⟩ := hne nm d' hval hrk
          have hBj := hkT B _ dB.symm hBB.2
          have hkDj := hkT kD _ dk.symm hkD.2
          have hgj := hkT d' _ n1 hg.2
          refine iteT ⟨.ref B, rfl, B, .ref kD, rfl, by rw [← book_kinds]; exact DGet.k (k := .inr "kinds") hBj, .ref t, rfl, t, _, 1, _, rfl, rfl, SqT.of at2.2, rfl, kD, .ref d', rfl, by rw [← hval]; exact DGet.k (k := .inr nm) hkDj, ?_⟩
          refine ⟨.ref L, rfl, .inl ⟨rfl, _, SqL.of hLT⟩, ?_⟩
          refine ⟨d', .dK gs, hgj, trivial, fun od2 => ⟨.ref d', rfl, d', od2, gs, rfl, upd_same, fun D2 nD2 => ?_⟩⟩
          have s0 : ∀ a o, a ≠ d' → Hj a = some o → (upd Hj d' (.frz od2 (.dK gs))) a = some o := fun a o na h => by rw [upd_ne na]; exact h
          have hd'f : (upd Hj d' (.frz od2 (.dK gs))) d' = some (.frz od2 (.dK gs)) := upd_same
          have bd' : b ≠ d' := hg.1.symm
          have Ld' : L ≠ d' := fun e => by rw [e, hgj] at hLT; cases hLT
          have hkind' : ∀ p ∈ gs, ∃ z' : Str, p.1 = .inr z' ∧ Wd z' ∧ ((∃ kd : Str, p.2 = .str kd ∧ KindS kd) ∨ ∃ (t' : Addr) (zs : List V), p.2 = .ref t' ∧ (upd Hj d' (.frz od2 (.dK gs))) t' = some (.tup zs)) := fun p hp => by
            obtain ⟨z', e', hz', hk'⟩ := hgs p hp
            refine ⟨z', e', hz', hk'.imp id ?_⟩
            rintro ⟨t', w2, nm2, d2, e2, a2, _⟩
            refine ⟨t', _, e2, s0 _ _ (fun e => ?_) ((a2.tt tj).2)⟩
            have := (a2.tt tj).2
            rw [e, hgj] at this
            cases this
          have hobf := s0 _ _ bd' hob'
          have hLf := s0 _ _ Ld' hLT
          generalize upd Hj d' (.frz od2 (.dK gs)) = Hf at s0 hd'f hkind' hobf hLf nD2
          have D2b : D2 ≠ b := (ne_of_none hobf nD2).symm
          refine lc_it (walk_items (kvs := gs)) (fun j Hc => Same Hf Hc ∧ ∃ ys, Hc D2 = some (.lst ys) ∧ ys.length ≤ j ∧ ∀ y ∈ ys, PairAt b Hc y) ⟨same_new nD2, [], upd_same, Nat.le_refl _, fun _ h => by (cases h)⟩ (fun j Hc _ hP => hP.1 _ _ hd'f) (fun j x Hc Hc' hj hP hY => ?_) (fun Hc hP => ?_)
          · obtain ⟨sc, ys, hD2, hyl, hys⟩ := hP
            obtain ⟨T2, x1, x2, rfl, nT2, rfl, e1, e2⟩ := hY
            obtain ⟨⟨k2, v2⟩, hkv2⟩ : ∃ p, gs[j]? = some p := ⟨_, List.getElem?_eq_getElem hj⟩
            have e1 : (gs[j]?.map fun kv => kV kv.1) = some x1 := e1
            have e2 : (gs[j]?.map Prod.snd) = some x2 := e2
            rw [hkv2] at e1 e2
            cases e1
            cases e2
            obtain ⟨z2, hz2, hzw2, hk2⟩ := hkind' _ (List.mem_of_getElem? hkv2)
            have hz2 : k2 = .inr z2 := hz2
            subst hz2
            have sT : Same Hc (upd Hc T2 (.tup [kV (.inr z2), v2])) := same_new nT2
            refine ⟨T2, _, rfl, SqT.of upd_same, rfl, _, _, rfl, _, _, rfl, rfl, rfl, ?_⟩
            generalize upd Hc T2 (.tup [kV (.inr z2), v2]) = He at sT
            have hD2e := sT _ _ hD2
            have hyse : ∀ y ∈ ys, PairAt b He y := fun y hy => (hys y hy).off (fun a o _ h => sT a o h)
            have sce : Same Hf He := fun a o h => sT _ _ (sc _ _ h)
            rcases hk2 with ⟨kd2, hv2, hkd2⟩ | ⟨t2, zs2, hv2, ht2⟩
            · have hv2 : v2 = .str kd2 := hv2
              subst hv2
              refine ⟨.str kd2, rfl, .str kd2, .ty "str", _, _, true, rfl, .ty "str", .base (.str kd2), kit_ty kSS, true, rfl, ?_⟩
              refine iteT ⟨.str z, rfl, .str z2, rfl, by show 2 ≤ sizeLine; decide, fun q1 nq1 => ⟨.str kd2, rfl, by show 2 ≤ sizeLine; decide, fun t1 nt1 => ?_⟩⟩
              have s1 : Same He (upd He q1 (.tup [.str z, .str z2])) := same_new nq1
              have s2 : Same He (upd (upd He q1 (.tup [.str z, .str z2])) t1 (.tup [.ref q1, .str kd2])) := fun a o h => same_new nt1 _ _ (s1 _ _ h)
              have hobe := sce _ _ hobf
              have q1b : q1 ≠ b := (ne_of_none hobe nq1).symm
              have t1b : t1 ≠ b := (ne_of_none (s1 _ _ hobe) nt1).symm
              have hD2g := s2 _ _ hD2e
              have pn : PairAt b (upd (upd He q1 (.tup [.str z, .str z2])) t1 (.tup [.ref q1, .str kd2])) (.ref t1) :=
                ⟨t1, .ref q1, kd2, rfl, ⟨t1b, upd_same⟩, ⟨q1, [z, z2], rfl, ⟨q1b, by rw [upd_ne (ne_of_none upd_same nt1)]; exact upd_same⟩, .inr rfl, fun w hw => by
                  rcases List.mem_cons.mp hw with e | e
                  · rw [e]; exact hzw
                  · rw [List.mem_singleton.mp e]; exact hzw2⟩, hkd2⟩
              have hysg : ∀ y ∈ ys, PairAt b (upd (upd He q1 (.tup [.str z, .str z2])) t1 (.tup [.ref q1, .str kd2])) y := fun y hy => (hyse y hy).off (fun a o _ h => s2 a o h)
              generalize upd (upd He q1 (.tup [.str z, .str z2])) t1 (.tup [.ref q1, .str kd2]) = Hg at s2 hD2g pn hysg
              refine ⟨ys, hD2g, Nat.lt_of_le_of_lt (by omega : ys.length ≤ 1000) (by decide), fun a o h => ?_, ys ++ [.ref t1], upd_same, by simp; omega, fun y hy => ?_⟩
              · rw [upd_ne (ne_of_none h nD2)]
                exact s2 _ _ (sce _ _ h)
              · have hp : PairAt b Hg y := by
                  rcases List.mem_append.mp hy with z | z
                  · exact hysg y z
                  · rw [List.mem_singleton.mp z]
                    exact pn
                have aL : ∀ {a : Addr} {zs : List V}, At b Hg a (.tup zs) → At b (upd Hg D2 (.lst (ys ++ [.ref t1]))) a (.tup zs) := fun {a zs} h => ⟨h.1, by rw [upd_ne (fun e => by have := h.2; rw [e, hD2g] at this; cases this)]; exact h.2⟩
                obtain ⟨t, q', kd, e, a, ⟨q2, ws, e2, a2, r2⟩, r⟩ := hp
                exact ⟨t, q', kd, e, aL a, ⟨q2, ws, e2, aL a2, r2⟩, r⟩
            · have hv2 : v2 = .ref t2 := hv2
              subst hv2
              refine ⟨.ref t2, rfl, .ref t2, .ty "str", _, _, false, rfl, .ty "str", .base (.tup (sce _ _ ht2)), kit_ty kTS, false, rfl, ?_⟩
              exact iteF ⟨sce, ys, hD2e, by omega, hyse⟩
          · obtain ⟨sc, ys, hD2, hyl, hys⟩ := hP
            have sa : Same Hj (upd Hc d' (.dK gs)) := fun a o h => by
              by_cases e : a = d'
              · subst e
                rw [hgj] at h
                cases h
                exact upd_same
              · rw [upd_ne e]
                exact sc _ _ (s0 a o e h)
            have hdc := sc _ _ hd'f
            have D2d : D2 ≠ d' := fun e => by rw [e, hdc] at hD2; cases hD2
            have hD2f : (upd Hc d' (.dK gs)) D2 = some (.lst ys) := by rw [upd_ne D2d]; exact hD2
            refine ⟨hdc, L, D2, xs, ys, rfl, rfl, sa _ _ hLT, hD2f, big_le (by omega), ?_⟩
            obtain ⟨_, _, _, xs', _, h⟩ := grow _ ys sa (sa _ _ hLT) (fun y hy => (hys y hy).offT (offT_frz hdc)) (by omega)
            exact ⟨_, _, _, xs', rfl, h⟩
        · rw [show decide (V.str "rows" = V.str "record") = false by decide +kernel]
          refine iteF ?_
          exact ⟨_, _, _, xs, rfl, hkT, hdT, tj, hLT, by omega, hxsj⟩
    · obtain ⟨y3, y4, y5, xs, rfl, hk, hdi, ti, hLi, hxl, hxs⟩ := hP
      have key : ∀ a o, H a = some o → (upd Hi d (.dK fs)) a = some o := fun a o h => by
        by_cases e : a = d
        · subst e
          rw [hd.2] at h
          cases h
          exact upd_same
        · rw [upd_ne e]
          exact hk a o e h
      have hLf : (upd Hi d (.dK fs)) L = some (.lst xs) := by rw [upd_ne (hd.ne nL).symm]; exact hLi
      refine ⟨hdi, _, rfl, q _ L key ⟨xs, ⟨Lb, hLf⟩, by omega, fun x hx => (hxs x hx).offT (offT_frz hdi)⟩ nL fun ys hys => ?_⟩
      rw [hLf] at hys
      cases hys
      omega
end
end M02

set_option Elab.async false
set_option linter.all false
set_option maxRecDepth 100000
set_option maxHeartbeats 4000000
/-! bodies of overrides: _law_body -/
namespace M02
open PySem PySem.Spec PyProof.Rows L2 GL GT
theorem scB5 : FnScope ["_law_box_here", "_law_book_here", "_law_name", "_law_some", "_law_is_own", "_law_found", "_law_ahead", "_law_field", "_law_kind", "_law_may_read"] ["_law_box_here", "_law_book_here", "_law_name", "_law_some", "_law_is_own"] (defScope sBody) := ⟨rfl, rfl, rfl, by decide +kernel, rfl, by decide +kernel, by decide +kernel⟩
/-- the right side of a where, and the field of its left -/
def WhAt (b : Addr) (H : Hp) (v : V) : Prop := v = .non ∨ ∃ (w r : Addr) (left : Str), v = .ref w ∧ At b H w (.tup [.str left, .ref r]) ∧ Wd left ∧ ((∃ q, At b H r (.tup [.str "path", q]) ∧ PathAt b H q) ∨ ∃ x, At b H r (.tup [.str "lit", x]) ∧ Lit x)
/-- values, nested n deep; N: the dicts in them -/
def VV (b : Addr) (N : Addr → Prop) (H : Hp) : Nat → V → Prop
  | 0, v => VV0 b H v
  | n + 1, v => VV0 b H v ∨ ∃ (t d : Addr) (kvs : List (Key × V)), v = .ref t ∧ At b H d (.dK kvs) ∧ N d ∧ kvs.length ≤ 4 ∧ (∀ p ∈ kvs, ∃ z : Str, p.1 = .inr z ∧ Wd z ∧ VV b N H n p.2) ∧
      (At b H t (.tup [.str "body", .ref d]) ∨ (∃ nm : Str, At b H t (.tup [.str "new", .str nm, .ref d]) ∧ Wd nm) ∨ ∃ (src nm : Str) (wh : V), At b H t (.tup [.str "loop", .str "it", .str src, wh, .str nm, .ref d]) ∧ Wd src ∧ Wd nm ∧ WhAt b H wh)
def BD (b : Addr) (N : Addr → Prop) (H : Hp) (n : Nat) (d : Addr) : Prop := ∃ kvs : List (Key × V), At b H d (.dK kvs) ∧ N d ∧ kvs.length ≤ 4 ∧ ∀ p ∈ kvs, ∃ z : Str, p.1 = .inr z ∧ Wd z ∧ VV b N H n p.2
/-- tuples, lists and such dicts stay -/
def TrV (b : Addr) (N : Addr → Prop) (H H' : Hp) : Prop := OffT b H H' ∧ ∀ a ks, N a → a ≠ b → H a = some (.dK ks) → H' a = some (.dK ks)
section
variable {b : Addr} {N N' : Addr → Prop} {H H' : Hp}
theorem Off.v (x : Off b H H') : TrV b N H H' := ⟨x.t, fun a ks _ n h => x a _ n h⟩
theorem WhAt.offT {v : V} (h : WhAt b H v) (o : OffT b H H') : WhAt b H' v := by
  refine h.imp id ?_
  rintro ⟨w, r, left, e, a, hl, h⟩
  refine ⟨w, r, left, e, a.tt o, hl, ?_⟩
  rcases h with ⟨q, aq, hq⟩ | ⟨x, ax, hx⟩
  · exact .inl ⟨q, aq.tt o, hq.offT o⟩
  · exact .inr ⟨x, ax.tt o, hx⟩
theorem VV.tr (hN : ∀ a, N a → N' a) (x : TrV b N H H') : ∀ {n : Nat} {v : V}, VV b N H n v → VV b N' H' n v
  | 0, v, h => VV0.offT h x.1
  | n + 1, v, h => by
    refine h.imp (fun z => z.offT x.1) ?_
    rintro ⟨t, d, kvs, e, a, hn, l, hk, h⟩
    refine ⟨t, d, kvs, e, ⟨a.1, x.2 d kvs hn a.1 a.2⟩, hN d hn, l, fun p hp => ?_, ?_⟩
    · obtain ⟨z, e1, hz, hv⟩ := hk p hp
      exact ⟨z, e1, hz, VV.tr hN x hv⟩
    · rcases h with h | ⟨nm, h, hw⟩ | ⟨src, nm, wh, h, h1, h2, h3⟩
      · exact .inl (h.tt x.1)
      · exact .inr (.inl ⟨nm, h.tt x.1, hw⟩)
      · exact .inr (.inr ⟨src, nm, wh, h.tt x.1, h1, h2, h3.offT x.1⟩)
theorem VV.zero {n : Nat} {v : V} (h : VV0 b H v) : VV b N H n v := by
  cases n with
  | zero => exact h
  | succ n => exact .inl h
theorem VV.up : ∀ {n m : Nat} {v : V}, n ≤ m → VV b N H n v → VV b N H m v
  | 0, _, _, _, h => VV.zero h
  | n + 1, 0, _, hle, _ => absurd hle (Nat.not_succ_le_zero n)
  | n + 1, m + 1, v, hle, h => by
    refine h.imp id ?_
    rintro ⟨t, d, kvs, e, a, hn, l, hk, h⟩
    exact ⟨t, d, kvs, e, a, hn, l, fun p hp => let ⟨z, e1, hz, hv⟩ := hk p hp; ⟨z, e1, hz, VV.up (Nat.le_of_succ_le_succ hle) hv⟩, h⟩
theorem BD.tr {n : Nat} {d : Addr} (h : BD b N H n d) (hN : ∀ a, N a → N' a) (x : TrV b N H H') : BD b N' H' n d := by
  obtain ⟨kvs, a, hn, l, hk⟩ := h
  exact ⟨kvs, ⟨a.1, x.2 d kvs hn a.1 a.2⟩, hN d hn, l, fun p hp => let ⟨z, e1, hz, hv⟩ := hk p hp; ⟨z, e1, hz, hv.tr hN x⟩⟩
end
theorem mem_put {κ : Type} [DecidableEq κ] {kvs : List (κ × V)} {k : κ} {v : V} {p : κ × V} (h : p ∈ putK kvs k v) : p = (k, v) ∨ p ∈ kvs := by
  unfold putK at h
  split at h
  · obtain ⟨q, hq, e⟩ := List.mem_map.mp h
    by_cases z : q.1 = k
    · rw [if_pos z] at e
      exact .inl (by rw [← e, z])
    · rw [if_neg z] at e
      exact .inr (e ▸ hq)
  · rcases List.mem_append.mp h with z | z
    · exact .inr z
    · exact .inl (List.mem_singleton.mp z)
theorem len_put {κ : Type} [DecidableEq κ] (kvs : List (κ × V)) (k : κ) (v : V) : (putK kvs k v).length ≤ kvs.length + 1 := by
  unfold putK
  split <;> simp
/-- how many numbers a body draws at most -/
def cst : Nat → Nat
  | 0 => 0
  | r + 1 => 208 + 4 * cst r
section
variable {P : Program} {w : World} {K : PySem.W.Frag} {mg : Str → Option Value} {base : Heap}
def spBody (r : Nat) : Sp := fun vs H Q _ => ∃ (b B lD tD kD d l : Addr) (n m : Nat) (nm : Str) (own : Bool) (kk : List (Key × V)) (rk : Addr → Nat), vs = [.ref b, .ref B, .str nm, .ref l, .bl own] ∧ Box H b n ∧ n + cst r < 880000 ∧ BookB b H B lD tD kD ∧ At b H kD (.dK kk) ∧ m ≤ r ∧ BookK b H kk rk m ∧
  valV kk (.inr nm) = some (.ref d) ∧ rk d < m ∧ SomeAt b H l ∧ (∀ nm d', valV kk (.inr nm) = some (.ref d') → rk d' < m → d' ≠ B ∧ d' ≠ kD) ∧
  ∀ (D : Addr) (H' : Hp), BD b (fun a => H a = none) H' (r - 1) D → Off b H H' → Box H' b (n + cst r) → Q (.ref D) H'
/-- between two fields of a body -/
def BI (b B D5 D6 d l : Addr) (nm : Str) (own : Bool) (H : Hp) (od : Obj) (fs : List (Key × V)) (n r i : Nat) (σ : L2.St) (Hi : Hp) : Prop := ∃ (y7 y8 y9 : Option V) (k5 k6 : List (Key × V)), σ = [some (.ref b), some (.ref B), some (.str nm), some (.ref l), some (.bl own), some (.ref D5), some (.ref D6), y7, y8, y9] ∧ (∀ a o, a ≠ b → a ≠ d → H a = some o → Hi a = some o) ∧ Hi d = some (.frz od (.dK fs)) ∧ Box Hi b (n + i * (52 + cst r)) ∧
  Hi D5 = some (.dK k5) ∧ Hi D6 = some (.dK k6) ∧ k5.length ≤ i ∧ k6.length ≤ i ∧ (∀ p ∈ k6, p ∈ fs) ∧ ∀ p ∈ k5, ∃ z : Str, p.1 = .inr z ∧ Wd z ∧ VV b (fun a => H a = none ∧ a ≠ D5 ∧ a ≠ D6) Hi r p.2
theorem ok_body0 {f : Addr} {fd : FuncData} {k : Nat} : FnG P w K mg base CX0 k f fd ["_law_box_here", "_law_book_here", "_law_name", "_law_some", "_law_is_own"] (spBody 0) := by
  refine ⟨fun vs H Q E h => ?_, fun A outer s H args us vs Q E _ _ _ _ _ h => ?_⟩
  · obtain ⟨_, _, _, _, _, _, _, _, _, _, _, _, _, rfl, _⟩ := h
    rfl
  · obtain ⟨_, _, _, _, _, _, _, _, m, _, _, _, _, _, _, _, _, _, h1, _, _, h2, _⟩ := h
    omega
theorem ok_body {f : Addr} {fd : FuncData} {r : Nat} (F : Fun K "_law_body" "_law_body" sBody f fd) (T : Bl K mg) (d_take : DnG P w K mg base "_law_take" 1 ["_law_box_here", "_law_many"] spTake) (d_value : DnG P w K mg base "_law_value" 5 ["_law_box_here", "_law_some", "_law_kind"] spValue)
    (d_paths : DnG P w K mg base "_law_paths" 1 ["_law_book_here", "_law_kinds"] spPaths) (d_body : DnG P w K mg base "_law_body" (5 + r) ["_law_box_here", "_law_book_here", "_law_name", "_law_some", "_law_is_own"] (spBody r)) :
    FnG P w K mg base CX0 (6 + r) f fd ["_law_box_here", "_law_book_here", "_law_name", "_law_some", "_law_is_own"] (spBody (r + 1)) := by
  rw [show 6 + r = (5 + r) + 1 by omega]
  refine okG0 F scB5 (fun vs H Q E h => ?_) (fun cdv A outer s H vs Q E hr hG h => ?_)
  · obtain ⟨_, _, _, _, _, _, _, _, _, _, _, _, _, rfl, _⟩ := h
    rfl
  · obtain ⟨b, B, lD, tD, kD, d, l, n, m, nm, own, kk, rk, rfl, hB, hn, hBB, hkD, hmr, hBK, hval, hrk, hS, hne, q⟩ := h
    refine ⟨_, (pss_cons (ps_par (i := 5) (j := 6) (by rfl) scB5.nd rfl rfl (by decide) rfl rfl (pa_cons pe_dnewK (pa_cons pe_dnewK pa_nil)) (by rfl))
      (pss_cons (ps_lock (ps_for PassesOwn.never rfl (pi_items (pe_dget (u1 hr) (pe_dget (u1 hr) (pv 1) pe_str (fun _ _ => rfl)) (pv 2) (fun _ _ => rfl))) (pg_tup rfl (pgs_cons (pg_name (i := 7) scB5.nd rfl (Or.inl rfl)) (pgs_cons (pg_name (i := 8) scB5.nd rfl (Or.inl rfl)) pgs_nil)))
        (pss_cons (ps_set (i := 9) scB5.nd rfl (Or.inl rfl) (pe_ifExp (pt_val (pv 4)) (pe_callG d_paths.ok (hr.mono (by omega)) hG (by rfl) d_paths.g d_paths.kp d_paths.b .nil pass0 (pa_cons (pv 1) (pa_cons (pv 6) pa_nil))) (pv 3)))
        (pss_cons (ps_if (PW.pt (pw_and (pt_val (pe_callB call_isi (by rfl) T.isinstance (by decide +kernel) (pa_cons (pv 8) (pa_cons (pe_bltn (v := .ty "str") (by rfl) T.str (by decide +kernel) rfl) pa_nil)))) (pw_and1 (pt_cmpR op_eq (pe_callG d_take.ok (hr.mono (by omega)) hG (by rfl) d_take.g d_take.kp d_take.b .nil pass0 (pa_cons (pv 0) (pa_cons pe_int pa_nil))) pe_int (nomark _)))))
          (pss_one (ps_dput (u1 hr) (pv 5) (pv 7) (pe_callG d_value.ok (hr.mono (by omega)) hG (by rfl) d_value.g d_value.kp d_value.b .nil pass0 (pa_cons (pv 0) (pa_cons (pv 9) (pa_cons (pv 8) pa_nil)))) rfl))
          (pss_one (ps_if (PW.pt (pw_and (pt_not (pt_val (pe_callB call_isi (by rfl) T.isinstance (by decide +kernel) (pa_cons (pv 8) (pa_cons (pe_bltn (v := .ty "str") (by rfl) T.str (by decide +kernel) rfl) pa_nil))))) (pw_and (pt_cmpR op_eq (pe_ix (r := rIxT K) ix_tup (pv 8) pe_int (fun _ _ => rfl)) pe_str (nomark _)) (pw_and1 (pt_cmpR op_eq (pe_callG d_take.ok (hr.mono (by omega)) hG (by rfl) d_take.g d_take.kp d_take.b .nil pass0 (pa_cons (pv 0) (pa_cons pe_int pa_nil))) pe_int (nomark _))))))
            (pss_one (ps_dput (u1 hr) (pv 5) (pv 7) (pe_tup (pa_cons pe_str (pa_cons (pe_callG d_body.ok (hr.mono (by omega)) hG (by rfl) d_body.g d_body.kp d_body.b .nil pass0 (pa_cons (pv 0) (pa_cons (pv 1) (pa_cons (pe_ix (r := rIxT K) ix_tup (pv 8) pe_int (fun _ _ => rfl)) (pa_cons (pv 9) (pa_cons pe_bl pa_nil)))))) pa_nil))) rfl))
            pss_nil)))
        (pss_one (ps_dput (u1 hr) (pv 6) (pv 7) (pv 8) rfl))))))
      (pss_one (ps_ret (pv 5))))), ?_⟩
    have hcst : cst (r + 1) = 208 + 4 * cst r := rfl
    obtain ⟨fs, hd, hfl, hfs⟩ := hBK nm d hval hrk
    obtain ⟨dB, dk⟩ := hne nm d hval hrk
    refine fun D5 n5 => fun D6 n6 => ⟨_, _, rfl, ?_⟩
    have D5b : D5 ≠ b := hB.ne n5
    have B5 := hB.new (u := .dK []) D5b
    have D6b : D6 ≠ b := B5.ne n6
    have D56 : D5 ≠ D6 := ne_of_none upd_same n6
    have n6H : H D6 = none := (Off.new (b := b) n5).none D6b n6
    have o6 : Off b H (upd (upd H D5 (.dK [])) D6 (.dK [])) := (Off.new n5).trans (Off.new n6)
    have hd6 := hd.off o6
    refine ⟨d, .dK fs, hd6.2, trivial, fun od => ?_⟩
    have dD5 : d ≠ D5 := hd.ne n5
    have dD6 : d ≠ D6 := hd.ne n6H
    -- everything but the locked dict stays
    have kp : ∀ a o, a ≠ d → H a = some o → (upd (upd (upd H D5 (.dK [])) D6 (.dK [])) d (.frz od (.dK fs))) a = some o := fun a o na h => by
      rw [upd_ne na, upd_ne (ne_of_none h n6H), upd_ne (ne_of_none h n5)]
      exact h
    have hB6 : Box (upd (upd (upd H D5 (.dK [])) D6 (.dK [])) d (.frz od (.dK fs))) b n := (B5.new D6b).new hd.1
    have hD5 : (upd (upd (upd H D5 (.dK [])) D6 (.dK [])) d (.frz od (.dK fs))) D5 = some (.dK []) := by rw [upd_ne dD5.symm, upd_ne D56, upd_same]
    have hD6 : (upd (upd (upd H D5 (.dK [])) D6 (.dK [])) d (.frz od (.dK fs))) D6 = some (.dK []) := by rw [upd_ne dD6.symm, upd_same]
    have hdf : (upd (upd (upd H D5 (.dK [])) D6 (.dK [])) d (.frz od (.dK fs))) d = some (.frz od (.dK fs)) := upd_same
    generalize upd (upd (upd H D5 (.dK [])) D6 (.dK [])) d (.frz od (.dK fs)) = H1 at kp hB6 hD5 hD6 hdf
    refine ⟨.ref B, rfl, B, .ref kD, rfl, by rw [← book_kinds]; exact DGet.k (k := .inr "kinds") (kp B _ dB.symm hBB.2), .str nm, rfl, kD, .ref d, rfl, by rw [← hval]; exact DGet.k (k := .inr nm) (kp kD _ dk.symm hkD.2), d, od, fs, rfl, hdf, ?_⟩
    refine for_it (walk_items (kvs := fs)) (BI b B D5 D6 d l nm own H od fs n r)
      ⟨none, none, none, [], [], rfl, fun a o _ na h => kp a o na h, hdf, by rw [Nat.zero_mul]; exact hB6, hD5, hD6, Nat.le_refl _, Nat.le_refl _, fun _ h => (by cases h), fun _ h => by (cases h)⟩ (fun i σ Hi _ hP => by obtain ⟨_, _, _, _, _, _, _, h, _⟩ := hP; exact h) (fun i x σ Hi Hi' hi hP hY => ?_) (fun σ Hi hP => ?_)
    · obtain ⟨y7, y8, y9, k5, k6, rfl, hk, hdi, hBi, h5i, h6i, l5, l6, hk6, hk5⟩ := hP
      obtain ⟨Tp, x1, x2, rfl, nT, rfl, e1, e2⟩ := hY
      obtain ⟨⟨k, v⟩, hkv⟩ : ∃ p, fs[i]? = some p := ⟨_, List.getElem?_eq_getElem hi⟩
      have e1 : (fs[i]?.map fun kv => kV kv.1) = some x1 := e1
      have e2 : (fs[i]?.map Prod.snd) = some x2 := e2
      rw [hkv] at e1 e2
      cases e1
      cases e2
      have hpm : (k, v) ∈ fs := List.mem_of_getElem? hkv
      obtain ⟨z, hz, hzw, hkind⟩ := hfs _ hpm
      have hz : k = .inr z := hz
      subst hz
      have i4 : i < 4 := Nat.lt_of_lt_of_le hi hfl
      have oT : Off b Hi (upd Hi Tp (.tup [kV (.inr z), v])) := Off.new nT
      have BT := hBi.new (u := .tup [kV (.inr z), v]) (hBi.ne nT)
      refine ⟨Tp, _, rfl, SqT.of upd_same, rfl, _, _, rfl, _, _, rfl, rfl, ?_⟩
      generalize upd Hi Tp (.tup [kV (.inr z), v]) = Hj at oT BT
      have hkj : ∀ a o, a ≠ b → a ≠ d → H a = some o → Hj a = some o := fun a o nb nd h => oT a o nb (hk a o nb nd h)
      have tj : OffT b H Hj := fun a ws nb => ⟨fun h => hkj a _ nb (fun e => by rw [e, hd.2] at h; cases h) h, fun h => hkj a _ nb (fun e => by rw [e, hd.2] at h; cases h) h⟩
      have h5j := oT.mem D5b h5i
      have h6j := oT.mem D6b h6i
      have hdj := oT.mem hd.1 hdi
      have hk5j : ∀ p ∈ k5, ∃ z : Str, p.1 = .inr z ∧ Wd z ∧ VV b (fun a => H a = none ∧ a ≠ D5 ∧ a ≠ D6) Hj r p.2 := fun p hp => let ⟨z, e, hz, hv⟩ := hk5 p hp; ⟨z, e, hz, hv.tr (fun _ h => h) oT.v⟩
      have hBBj : BookB b Hj B lD tD kD := ⟨hBB.1, hkj B _ hBB.1 dB.symm hBB.2⟩
      have hkDj : At b Hj kD (.dK kk) := ⟨hkD.1, hkj kD _ hkD.1 dk.symm hkD.2⟩
      have hBKj : BookK b Hj kk rk (rk d) := fun nm' d' e hr' => by
        obtain ⟨gs, hg, hgl, hgs⟩ := hBK nm' d' e (by omega)
        refine ⟨gs, ⟨hg.1, hkj d' _ hg.1 (fun e => by rw [e] at hr'; omega) hg.2⟩, hgl, fun p hp => (hgs p hp).offT tj⟩
      have hnej : ∀ nm d', valV kk (.inr nm) = some (.ref d') → rk d' < rk d → d' ≠ B ∧ d' ≠ kD := fun nm' d' e hr' => hne nm' d' e (by omega)
      have hSj : SomeAt b Hj l := hS.offT tj
      -- what may be read
      refine if_anyH (R := fun v' Hm => Same Hj Hm ∧ ∃ l', v' = .ref l' ∧ SomeAt b Hm l') (fun Q' q' => ?_) (fun v' Hm hv' => ?_)
      · refine ⟨.bl own, rfl, own, rfl, ?_⟩
        cases own with
        | false => exact iteF ⟨_, rfl, q' _ _ ⟨fun _ _ h => h, l, rfl, hSj⟩⟩
        | true =>
          refine iteT ⟨.ref B, rfl, .ref D6, rfl, b, B, lD, tD, kD, D6, kk, k6, rk, rk d, rfl, hBBj, hkDj, hBKj, ⟨D6b, h6j⟩, by omega, fun p hp => (hfs p (hk6 p hp)).offT tj, ?_, ?_, fun nm' d' e hr' => ?_, ?_, fun H' l' sm sa _ _ => q' _ _ ⟨sm, l', rfl, sa⟩⟩
          · exact fun e => by
              have := hBB.2
              rw [← e, n6H] at this
              cases this
          · exact fun e => by
              have := hkD.2
              rw [← e, n6H] at this
              cases this
          · obtain ⟨gs, hg, _⟩ := hBK nm' d' e (by omega)
            refine ⟨fun e' => ?_, hnej nm' d' e hr'⟩
            have := hg.2
            rw [e', n6H] at this
            cases this
          · obtain ⟨o', _, _, h', _⟩ := BT
            exact ⟨_, h'⟩
      · obtain ⟨sm, l', rfl, hSm⟩ := hv'
        have Bm := BT.same sm
        have om : Off b Hj Hm := fun a o _ h => sm a o h
        have h5m := sm _ _ h5j
        have h6m := sm _ _ h6j
        have hdm := sm _ _ hdj
        have hk5m : ∀ p ∈ k5, ∃ z : Str, p.1 = .inr z ∧ Wd z ∧ VV b (fun a => H a = none ∧ a ≠ D5 ∧ a ≠ D6) Hm r p.2 := fun p hp => let ⟨z, e, hz, hv⟩ := hk5j p hp; ⟨z, e, hz, hv.tr (fun _ h => h) om.v⟩
        have hkm : ∀ a o, a ≠ b → a ≠ d → H a = some o → Hm a = some o := fun a o nb nd h => sm _ _ (hkj a o nb nd h)
        have hBBm : BookB b Hm B lD tD kD := hBBj.off om
        have hkDm : At b Hm kD (.dK kk) := hkDj.off om
        have hBKm : BookK b Hm kk rk (rk d) := hBKj.off om
        have tm : OffT b H Hm := tj.trans om.t
        have oHm : ∀ a, a ≠ b → a ≠ d → Hm a = none → H a = none := fun a nb nd h => by
          cases zz : H a with
          | none => rfl
          | some o =>
            have := hkm a o nb nd zz
            rw [h] at this
            cases this
        -- the turn's end: the field goes into ahead
        have fin : ∀ (Hn : Hp) (k5' : List (Key × V)) (c : Nat), Box Hn b c → c ≤ n + (i + 1) * (52 + cst r) → Hn D5 = some (.dK k5') → Hn D6 = some (.dK k6) → Hn d = some (.frz od (.dK fs)) → k5'.length ≤ i + 1 → (∀ a o, a ≠ b → a ≠ d → H a = some o → Hn a = some o) →
            (∀ p ∈ k5', ∃ z : Str, p.1 = .inr z ∧ Wd z ∧ VV b (fun a => H a = none ∧ a ≠ D5 ∧ a ≠ D6) Hn r p.2) → BI b B D5 D6 d l nm own H od fs n r (i + 1) [some (.ref b), some (.ref B), some (.str nm), some (.ref l), some (.bl own), some (.ref D5), some (.ref D6), some (.str z), some v, some (.ref l')] (upd Hn D6 (.dK (putK k6 (.inr z) v))) := fun Hn k5' c Bn hc h5n h6n hdn l5n hkn hv5 => by
          refine ⟨_, _, _, k5', putK k6 (.inr z) v, rfl, fun a o nb nd h => ?_, ?_, (Bn.new D6b).mono hc, ?_, upd_same, l5n, ?_, fun p hp => ?_, fun p hp => ?_⟩
          · rw [upd_ne (ne_of_none h n6H)]
            exact hkn a o nb nd h
          · rw [upd_ne dD6]
            exact hdn
          · rw [upd_ne D56]
            exact h5n
          · have := len_put k6 (.inr z) v
            omega
          · rcases mem_put hp with e | e
            · rw [e]
              exact hpm
            · exact hk6 p e
          · obtain ⟨z', e', hz', hv'⟩ := hv5 p hp
            refine ⟨z', e', hz', hv'.tr (fun _ h => h) ⟨offT_dict h6n, fun a ks ha _ h => ?_⟩⟩
            rw [upd_ne ha.2.2]
            exact h
        -- a value is put in
        have putIn : ∀ (Hn : Hp) (c : Nat) (w' : V), Off b Hm Hn → Box Hn b c → VV b (fun a => Hm a = none) Hn r w' → (∀ p ∈ putK k5 (.inr z) w', ∃ z2 : Str, p.1 = .inr z2 ∧ Wd z2 ∧ VV b (fun a => H a = none ∧ a ≠ D5 ∧ a ≠ D6) (upd Hn D5 (.dK (putK k5 (.inr z) w'))) r p.2) := fun Hn c w' on Bn hw p hp => by
          have h5n := on.mem D5b h5m
          have tr : TrV b (fun a => H a = none ∧ a ≠ D5 ∧ a ≠ D6) Hn (upd Hn D5 (.dK (putK k5 (.inr z) w'))) := ⟨offT_dict h5n, fun a ks ha _ h => by rw [upd_ne ha.2.1]; exact h⟩
          rcases mem_put hp with e | e
          · rw [e]
            refine ⟨z, rfl, hzw, ?_⟩
            have hN : ∀ a, (Hm a = none ∧ a ≠ b ∧ a ≠ d) → (H a = none ∧ a ≠ D5 ∧ a ≠ D6) := fun a ha => ⟨oHm a ha.2.1 ha.2.2 ha.1, fun e => (by rw [e, h5m] at ha; cases ha.1), fun e => (by rw [e, h6m] at ha; cases ha.1)⟩
            have hw2 : VV b (fun a => H a = none ∧ a ≠ D5 ∧ a ≠ D6) Hn r w' := hw.tr (N' := fun a => H a = none ∧ a ≠ D5 ∧ a ≠ D6) (fun a ha => ?_) ⟨fun a xs _ => ⟨fun h => h, fun h => h⟩, fun a ks _ _ h => h⟩
            · exact hw2.tr (fun _ h => h) tr
            · refine hN a ⟨ha, fun e => ?_, fun e => ?_⟩
              · obtain ⟨o', _, _, h', _⟩ := Bm
                rw [e, h'] at ha
                cases ha
              · rw [e, hdm] at ha
                cases ha
          · obtain ⟨z', e', hz', hv'⟩ := hk5m p e
            exact ⟨z', e', hz', (hv'.tr (fun _ h => h) on.v).tr (fun _ h => h) tr⟩
        have six : k6.length < sizeLine := Nat.lt_of_lt_of_le (by omega : k6.length < 1000) (by decide)
        have five : k5.length < sizeLine := Nat.lt_of_lt_of_le (by omega : k5.length < 1000) (by decide)
        have cm : (i + 1) * (52 + cst r) = i * (52 + cst r) + (52 + cst r) := Nat.succ_mul _ _
        have cl : i * (52 + cst r) ≤ 3 * (52 + cst r) := Nat.mul_le_mul_right _ (by omega)
        -- nothing is put in
        have skip : ∀ (Hn : Hp) (c : Nat), Off b Hm Hn → Box Hn b c → c ≤ n + (i + 1) * (52 + cst r) → BI b B D5 D6 d l nm own H od fs n r (i + 1) [some (.ref b), some (.ref B), some (.str nm), some (.ref l), some (.bl own), some (.ref D5), some (.ref D6), some (.str z), some v, some (.ref l')] (upd Hn D6 (.dK (putK k6 (.inr z) v))) := fun Hn c on Bn hc =>
          fin Hn k5 c Bn hc (on.mem D5b h5m) (on.mem D6b h6m) (on.mem hd.1 hdm) (by omega) (fun a o nb nd h => on a o nb (hkm a o nb nd h)) fun p hp => let ⟨z', e', hz', hv'⟩ := hk5m p hp; ⟨z', e', hz', hv'.tr (fun _ h => h) on.v⟩
        -- something is put in
        have some_ : ∀ (Hn : Hp) (c : Nat) (w' : V), Off b Hm Hn → Box Hn b c → c ≤ n + (i + 1) * (52 + cst r) → VV b (fun a => Hm a = none) Hn r w' → BI b B D5 D6 d l nm own H od fs n r (i + 1) [some (.ref b), some (.ref B), some (.str nm), some (.ref l), some (.bl own), some (.ref D5), some (.ref D6), some (.str z), some v, some (.ref l')] (upd (upd Hn D5 (.dK (putK k5 (.inr z) w'))) D6 (.dK (putK k6 (.inr z) v))) := fun Hn c w' on Bn hc hw =>
          fin _ (putK k5 (.inr z) w') c (Bn.new D5b) hc upd_same (by rw [upd_ne D56.symm]; exact on.mem D6b h6m) (by rw [upd_ne dD5]; exact on.mem hd.1 hdm) (by have := len_put k5 (.inr z) w'; omega) (fun a o nb nd h => by rw [upd_ne (ne_of_none h n5)]; exact on a o nb (hkm a o nb nd h)) (putIn Hn c w' on Bn hw)
        rcases hkind with ⟨kd, hv, hkd⟩ | ⟨t, w', nm', d', hv, at', hw', hnm', hval', hrk'⟩
        · have hv : v = .str kd := hv
          subst hv
          have isS : ∀ {Q' : VK} (Hx : Hp), Q' (.bl true) Hx → tCB (rIsi K) (tCons (tVar 8) (tCons (tC (.ty "str")) tNil)) [some (.ref b), some (.ref B), some (.str nm), some (.ref l), some (.bl own), some (.ref D5), some (.ref D6), some (.str z), some (.str kd), some (.ref l')] Hx Q' := fun Hx h => ⟨.str kd, rfl, .str kd, .ty "str", _, _, true, rfl, .ty "str", .base (.str kd), kit_ty kSS, h⟩
          refine isS Hm ⟨true, rfl, ?_⟩
          refine iteT ⟨.ref b, rfl, b, 3, _, rfl, Bm, by omega, by decide, by decide, fun r1 u1 r10 r11 Bn => ?_⟩
          have on : Off b Hm (upd Hm b u1) := Off.box
          have hSn := hSm.off on
          generalize upd Hm b u1 = Hn at on Bn hSn
          refine ⟨rfl, _, rfl, ite2 (fun e => ?_) (fun e => ?_)⟩
          · refine ⟨.ref b, rfl, .ref l', rfl, .str kd, rfl, b, l', _, kd, rfl, Bn, by omega, hSn, fun w' Ho vv oo Bo => ?_⟩
            have h5o := (on.trans oo).mem D5b h5m
            have h6o := (on.trans oo).mem D6b h6m
            refine ⟨.ref D5, rfl, .str z, rfl, D5, _, rfl, DPut.k (k := .inr z) h5o five, .str kd, rfl, .ref D6, rfl, .str z, rfl, D6, _, rfl, DPut.k (k := .inr z) (by rw [upd_ne D56.symm]; exact h6o) six, ?_⟩
            exact some_ Ho _ w' (on.trans oo) Bo (by omega) (VV.zero vv)
          · refine isS Hn ⟨true, rfl, ?_⟩
            refine iteF ?_
            exact ⟨.str kd, rfl, .ref D6, rfl, .str z, rfl, D6, _, rfl, DPut.k (k := .inr z) (on.mem D6b h6m) six, skip Hn _ on Bn (by omega)⟩
        · have hv : v = .ref t := hv
          subst hv
          have at2 := at'.tt tm
          have isT : ∀ {Q' : VK} (Hx : Hp), At b Hx t (.tup [.str w', .str nm']) → Q' (.bl false) Hx → tCB (rIsi K) (tCons (tVar 8) (tCons (tC (.ty "str")) tNil)) [some (.ref b), some (.ref B), some (.str nm), some (.ref l), some (.bl own), some (.ref D5), some (.ref D6), some (.str z), some (.ref t), some (.ref l')] Hx Q' := fun Hx ha h => ⟨.ref t, rfl, .ref t, .ty "str", _, _, false, rfl, .ty "str", .base (.tup ha.2), kit_ty kTS, h⟩
          have leave : ∀ (Hn : Hp) (c : Nat), Off b Hm Hn → Box Hn b c → c ≤ n + (i + 1) * (52 + cst r) → BI b B D5 D6 d l nm own H od fs n r (i + 1) [some (.ref b), some (.ref B), some (.str nm), some (.ref l), some (.bl own), some (.ref D5), some (.ref D6), some (.str z), some (.ref t), some (.ref l')] (upd Hn D6 (.dK (putK k6 (.inr z) (.ref t)))) := skip
          refine isT Hm at2 ⟨false, rfl, ?_⟩
          refine iteF ?_
          refine isT Hm at2 ⟨false, rfl, ?_⟩
          refine iteT ⟨.ref t, rfl, t, _, 0, _, rfl, rfl, SqT.of at2.2, rfl, rfl, _, rfl, ?_⟩
          rcases hw' with rfl | rfl
          · rw [show decide (V.str "record" = V.str "record") = true by decide +kernel]
            refine iteT ⟨.ref b, rfl, b, 3, _, rfl, Bm, by omega, by decide, by decide, fun r1 u1 r10 r11 Bn => ?_⟩
            have on : Off b Hm (upd Hm b u1) := Off.box
            have hSn := hSm.off on
            generalize upd Hm b u1 = Hn at on Bn hSn
            refine ⟨rfl, _, rfl, ite2 (fun e => ?_) (fun e => ?_)⟩
            · have atn := at2.off on
              refine ⟨.ref b, rfl, .ref B, rfl, .ref t, rfl, t, _, 1, _, rfl, rfl, SqT.of atn.2, rfl, .ref l', rfl, ?_⟩
              refine ⟨b, B, lD, tD, kD, d', l', _, rk d, nm', false, kk, rk, rfl, Bn, by omega, hBBm.off on, hkDm.off on, by omega, hBKm.off on, hval', hrk', hSn, hnej, fun D' Ho hBD oo Bo => ⟨by show 2 ≤ sizeLine; decide, fun tp ntp => ?_⟩⟩
              have op := Off.new (b := b) (u := .tup [.str "body", .ref D']) ntp
              have o3 : Off b Hm (upd Ho tp (.tup [.str "body", .ref D'])) := (on.trans oo).trans op
              have h5o := o3.mem D5b h5m
              have h6o := o3.mem D6b h6m
              refine ⟨.ref D5, rfl, .str z, rfl, D5, _, rfl, DPut.k (k := .inr z) h5o five, .ref t, rfl, .ref D6, rfl, .str z, rfl, D6, _, rfl, DPut.k (k := .inr z) (by rw [upd_ne D56.symm]; exact h6o) six, ?_⟩
              refine some_ _ _ (.ref tp) o3 (Bo.new (Bo.ne ntp)) (by omega) ?_
              obtain ⟨kvs, ad, hnd, hkl, hkk⟩ := hBD
              have nb0 : ∀ a, Hn a = none → Hm a = none := fun a ha => by
                by_cases e : a = b
                · obtain ⟨o', _, _, h', _⟩ := Bn
                  rw [e, h'] at ha
                  cases ha
                · exact on.none e ha
              cases r with
              | zero => omega
              | succ r' =>
                refine .inr ⟨tp, D', kvs, rfl, ad.off op, nb0 _ hnd, hkl, fun p hp => ?_, .inl (.new Bo ntp)⟩
                obtain ⟨z', e', hz', hv'⟩ := hkk p hp
                exact ⟨z', e', hz', hv'.tr nb0 op.v⟩
            · exact ⟨.ref t, rfl, .ref D6, rfl, .str z, rfl, D6, _, rfl, DPut.k (k := .inr z) (on.mem D6b h6m) six, skip Hn _ on Bn (by omega)⟩
          · rw [show decide (V.str "rows" = V.str "record") = false by decide +kernel]
            refine iteF ?_
            exact ⟨.ref t, rfl, .ref D6, rfl, .str z, rfl, D6, _, rfl, DPut.k (k := .inr z) h6m six, skip Hm _ (Off.refl b Hm) Bm (by omega)⟩
    · obtain ⟨y7, y8, y9, k5, k6, rfl, hk, hdi, hBi, h5i, h6i, l5, l6, hk6, hk5⟩ := hP
      refine ⟨hdi, _, rfl, ?_⟩
      have hub : Box (upd Hi d (.dK fs)) b (n + fs.length * (52 + cst r)) := hBi.new hd.1
      have h5f : (upd Hi d (.dK fs)) D5 = some (.dK k5) := by rw [upd_ne dD5.symm]; exact h5i
      refine q D5 _ ⟨k5, ⟨D5b, h5f⟩, n5, by omega, fun p hp => ?_⟩ (fun a o nb h => ?_) (hub.mono ?_)
      · obtain ⟨z, e, hz, hv⟩ := hk5 p hp
        refine ⟨z, e, hz, hv.tr (fun a ha => ha.1) ⟨offT_frz hdi, fun a ks _ _ h => ?_⟩⟩
        rw [upd_ne (fun e => by rw [e, hdi] at h; cases h)]
        exact h
      · by_cases e : a = d
        · subst e
          rw [hd.2] at h
          cases h
          exact upd_same
        · rw [upd_ne e]
          exact hk a o nb e h
      · have : fs.length * (52 + cst r) ≤ 4 * (52 + cst r) := Nat.mul_le_mul_right _ hfl
        omega
end
end M02

set_option Elab.async false
set_option linter.all false
set_option maxRecDepth 100000
set_option maxHeartbeats 4000000
/-! loops: _law_loop -/
namespace M02
open PySem PySem.Spec PyProof.Rows L2 GL GT
theorem scB6 : FnScope ["_law_box_here", "_law_book_here", "_law_name", "_law_some", "_law_source", "_law_fields", "_law_left", "_law_fit", "_law_where", "_law_items", "_law_path", "_law_kind", "_law_field"] ["_law_box_here", "_law_book_here", "_law_name", "_law_some"] (defScope sLoop) := ⟨rfl, rfl, rfl, by decide +kernel, rfl, by decide +kernel, by decide +kernel⟩
/-- x = an expression in two ways, and what follows -/
theorem asg_anyB {t : TT} {a b : TE} {g : TG} {u : TS} {D : Ends} {σ : L2.St} {H : Hp} {R : V → Hp → Prop} (h : ∀ Q' : VK, (∀ v H', R v H' → Q' v H') → tIf t a b σ H Q') (q : ∀ v H', R v H' → g v σ H' fun σ' H' => u D σ' H') : tSeq (tAsg (tIf t a b) g) u D σ H := h _ q
/-- the fields of a list -/
def FF (fs : List (Key × V)) : Prop := fs = [(.inr "p", .str "number")] ∨ fs = [(.inr "p", .str "number"), (.inr "t", .str "text")]
theorem wd1 {c : Nat} (h : c ∈ lets) : Wd (S [c]) := ⟨by rw [cs_S]; simp, fun d hd => by rw [cs_S] at hd; rw [List.mem_singleton.mp hd]; exact h, by rw [cs_S]; simp⟩
theorem wd_of {z : Str} (h : cs z ≠ [] ∧ (∀ c ∈ cs z, c ∈ lets) ∧ (cs z).length ≤ 8) : Wd z := h
theorem wdP : Wd "p" := wd_of (by decide +kernel)
theorem wdT : Wd "t" := wd_of (by decide +kernel)
theorem wdIt : Wd "it" := wd_of (by decide +kernel)
theorem FF.mem {fs : List (Key × V)} (h : FF fs) : fs.length ≤ 2 ∧ fs ≠ [] ∧ ∀ p ∈ fs, ∃ (z kd : Str), p = (.inr z, .str kd) ∧ Wd z ∧ KindS kd := by
  rcases h with rfl | rfl
  · refine ⟨by decide, by simp, fun p hp => ?_⟩
    rw [List.mem_singleton.mp hp]
    exact ⟨_, _, rfl, wdP, .inl rfl⟩
  · refine ⟨by decide, by simp, fun p hp => ?_⟩
    rcases List.mem_cons.mp hp with e | e
    · rw [e]
      exact ⟨_, _, rfl, wdP, .inl rfl⟩
    · rw [List.mem_singleton.mp e]
      exact ⟨_, _, rfl, wdT, .inr rfl⟩
def RowAt (b : Addr) (H : Hp) (r : V) : Prop := ∃ (rd : Addr) (ks : List (Key × V)), r = .ref rd ∧ At b H rd (.dK ks) ∧ ks.length ≤ 2 ∧ ∀ p ∈ ks, ∃ z : Str, p.1 = .inr z ∧ Wd z ∧ Lit p.2
def ListAt (b : Addr) (H : Hp) (v : V) : Prop := ∃ (t fd rw_ : Addr) (fs : List (Key × V)) (rs : List V), v = .ref t ∧ At b H t (.tup [.ref fd, .ref rw_]) ∧ At b H fd (.dK fs) ∧ FF fs ∧ At b H rw_ (.lst rs) ∧ rs.length ≤ 3 ∧ ∀ r ∈ rs, RowAt b H r
def ListsAt (b : Addr) (H : Hp) (lD : Addr) (ll : List (Key × V)) : Prop := At b H lD (.dK ll) ∧ ll.length ≤ 2 ∧ ∀ p ∈ ll, ∃ z : Str, p.1 = .inr z ∧ Wd z ∧ ListAt b H p.2
section
variable {b : Addr} {H H' : Hp}
theorem RowAt.off {r : V} (h : RowAt b H r) (o : Off b H H') : RowAt b H' r := let ⟨rd, ks, e, a, r⟩ := h; ⟨rd, ks, e, a.off o, r⟩
theorem ListAt.off {v : V} (h : ListAt b H v) (o : Off b H H') : ListAt b H' v := let ⟨t, fd, rw_, fs, rs, e, a1, a2, f, a3, l, r⟩ := h; ⟨t, fd, rw_, fs, rs, e, a1.off o, a2.off o, f, a3.off o, l, fun x hx => (r x hx).off o⟩
theorem ListsAt.off {lD : Addr} {ll : List (Key × V)} (h : ListsAt b H lD ll) (o : Off b H H') : ListsAt b H' lD ll := ⟨h.1.off o, h.2.1, fun p hp => let ⟨z, e, hz, hl⟩ := h.2.2 p hp; ⟨z, e, hz, hl.off o⟩⟩
end
theorem keys_txt : ∀ {ll : List (Key × V)}, (∀ p ∈ ll, ∃ z : Str, p.1 = .inr z) → ∃ ks : List Str, ll.map (·.1) = ks.map Sum.inr
  | [], _ => ⟨[], rfl⟩
  | p :: r, h => by
    obtain ⟨z, e⟩ := h p List.mem_cons_self
    obtain ⟨ks, e2⟩ := keys_txt (ll := r) fun q hq => h q (List.mem_cons_of_mem _ hq)
    exact ⟨z :: ks, by rw [List.map_cons, List.map_cons, e, e2]⟩
theorem val_mem {ll : List (Key × V)} {k : Key} : (∃ p ∈ ll, p.1 = k) → ∃ p ∈ ll, p.1 = k ∧ valV ll k = some p.2 := by
  rintro ⟨p, hp, e⟩
  induction ll with
  | nil => cases hp
  | cons q r ih =>
    by_cases z : q.1 = k
    · exact ⟨q, List.mem_cons_self, z, valV_pos z⟩
    · rcases List.mem_cons.mp hp with y | y
      · rw [y] at e
        exact absurd e z
      · obtain ⟨p', h1, h2, h3⟩ := ih y
        exact ⟨p', List.mem_cons_of_mem _ h1, h2, (valV_neg z).trans h3⟩
/-- a key of a dict's sorted keys -/
theorem of_keys {ll : List (Key × V)} {ks ys : List Str} {x : V} (e : ll.map (·.1) = ks.map Sum.inr) (hp : ys.Perm ks) (hx : x ∈ ys.map V.str) : ∃ (z : Str) (p : Key × V), x = .str z ∧ p ∈ ll ∧ p.1 = .inr z ∧ valV ll (.inr z) = some p.2 := by
  obtain ⟨z, hz, rfl⟩ := List.mem_map.mp hx
  have h1 : (Sum.inr z : Key) ∈ ll.map (·.1) := by rw [e]; exact List.mem_map.mpr ⟨z, hp.mem_iff.mp hz, rfl⟩
  obtain ⟨p, hp, ep⟩ := List.mem_map.mp h1
  obtain ⟨p', h2, h3, h4⟩ := val_mem ⟨p, hp, ep⟩
  exact ⟨z, p', rfl, h2, h3, h4⟩
section
variable {P : Program} {w : World} {K : PySem.W.Frag} {mg : Str → Option Value} {base : Heap}
def spLoop (r : Nat) : Sp := fun vs H Q _ => ∃ (b B lD tD kD d l : Addr) (n m : Nat) (nm : Str) (kk ll : List (Key × V)) (rk : Addr → Nat), vs = [.ref b, .ref B, .str nm, .ref l] ∧ Box H b n ∧ n + 10 + cst r < 880000 ∧ BookB b H B lD tD kD ∧ At b H kD (.dK kk) ∧ m ≤ r ∧ BookK b H kk rk m ∧
  valV kk (.inr nm) = some (.ref d) ∧ Wd nm ∧ rk d < m ∧ SomeAt b H l ∧ (∀ xs, H l = some (.lst xs) → xs.length ≤ 28) ∧ (∀ nm d', valV kk (.inr nm) = some (.ref d') → rk d' < m → d' ≠ B ∧ d' ≠ kD) ∧ ListsAt b H lD ll ∧ ll ≠ [] ∧
  ∀ (t : Addr) (H' : Hp), VV b (fun a => H a = none) H' r (.ref t) → Off b H H' → Box H' b (n + 10 + cst r) → Q (.ref t) H'
theorem ok_loop {f : Addr} {fd : FuncData} {r : Nat} (F : Fun K "_law_loop" "_law_loop" sLoop f fd) (T : Bl K mg) (d_take : DnG P w K mg base "_law_take" 1 ["_law_box_here", "_law_many"] spTake) (d_of : DnG P w K mg base "_law_of" 2 ["_law_box_here", "_law_some"] OfW)
    (d_plain : DnG P w K mg base "_law_plain" 3 ["_law_box_here", "_law_kind"] spPlain) (d_body : DnG P w K mg base "_law_body" (5 + r) ["_law_box_here", "_law_book_here", "_law_name", "_law_some", "_law_is_own"] (spBody r)) :
    FnG P w K mg base CX0 (6 + r) f fd ["_law_box_here", "_law_book_here", "_law_name", "_law_some"] (spLoop r) := by
  rw [show 6 + r = (5 + r) + 1 by omega]
  refine okG0 F scB6 (fun vs H Q E h => ?_) (fun cdv A outer s H vs Q E hr hG h => ?_)
  · obtain ⟨_, _, _, _, _, _, _, _, _, _, _, _, _, rfl, _⟩ := h
    rfl
  · obtain ⟨b, B, lD, tD, kD, d, l, n, m, nm, kk, ll, rk, rfl, hB, hn, hBB, hkD, hmr, hBK, hval, hnm, hrk, hS, hSl, hne, hLs, hl0, q⟩ := h
    refine ⟨_, (pss_cons (ps_set (i := 4) scB6.nd rfl (Or.inl rfl) (pe_callG d_of.ok (hr.mono (by omega)) hG (by rfl) d_of.g d_of.kp d_of.b .nil pass0 (pa_cons (pv 0) (pa_cons (pe_callB (call_sortedD rfl) (by rfl) T.sorted (by decide +kernel) (pa_cons (pe_dget (u1 hr) (pv 1) pe_str (fun _ _ => rfl)) pa_nil)) pa_nil))))
      (pss_cons (ps_set (i := 5) scB6.nd rfl (Or.inr rfl) (pe_ix (r := rIxT K) ix_tup (pe_dget (u1 hr) (pe_dget (u1 hr) (pv 1) pe_str (fun _ _ => rfl)) (pv 4) (fun _ _ => rfl)) pe_int (fun _ _ => rfl)))
      (pss_cons (ps_set (i := 6) scB6.nd rfl (Or.inr rfl) (pe_callG d_of.ok (hr.mono (by omega)) hG (by rfl) d_of.g d_of.kp d_of.b .nil pass0 (pa_cons (pv 0) (pa_cons (pe_callB (call_sortedD rfl) (by rfl) T.sorted (by decide +kernel) (pa_cons (pv 5) pa_nil)) pa_nil))))
      (pss_cons (ps_setLc (i := 7) (own := [("_law_path", 10), ("_law_kind", 11)]) (g := gTup K 2 (gCons (gName 10) (gCons (gName 11) gNil))) (by rfl) scB6.nd rfl rfl (sw_true rfl rfl rfl (by decide +kernel)) (pi_list (pv 3)) (blkOk_by (own := [("_law_path", 10), ("_law_kind", 11)]) (N := ["_law_box_here", "_law_book_here", "_law_name", "_law_some", "_law_source", "_law_fields", "_law_left", "_law_fit", "_law_where", "_law_items", "_law_path", "_law_kind", "_law_field"]) (sc := defScope sLoop) (by decide +kernel)) (fun _ _ _ _ _ => (pg_tup rfl (pgs_cons (pg_name (i := 10) scB6.nd rfl (Or.inl rfl)) (pgs_cons (pg_name (i := 11) scB6.nd rfl (Or.inl rfl)) pgs_nil)))) (fun _ _ _ _ _ => (pts_one (pt_cmpR op_eq (pv 11) (pe_dget (u1 hr) (pv 5) (pv 6) (fun _ _ => rfl)) (nomark _)))) (fun _ _ _ _ _ => (pe_tup (pa_cons pe_str (pa_cons (pv 10) pa_nil)))))
      (pss_cons (ps_set (i := 8) scB6.nd rfl (Or.inl rfl) (pe_tup (pa_cons (pv 6) (pa_cons (pe_callG d_of.ok (hr.mono (by omega)) hG (by rfl) d_of.g d_of.kp d_of.b .nil pass0 (pa_cons (pv 0) (pa_cons (pe_op op_cat (pv 7) (pe_lst (pa_cons (pe_callG d_plain.ok (hr.mono (by omega)) hG (by rfl) d_plain.g d_plain.kp d_plain.b .nil pass0 (pa_cons (pv 0) (pa_cons (pe_dget (u1 hr) (pv 5) (pv 6) (fun _ _ => rfl)) pa_nil))) pa_nil))) pa_nil))) pa_nil))))
      (pss_cons (ps_set (i := 8) scB6.nd rfl (Or.inl rfl) (pe_ifExp (pt_cmpR op_eq (pe_callG d_take.ok (hr.mono (by omega)) hG (by rfl) d_take.g d_take.kp d_take.b .nil pass0 (pa_cons (pv 0) (pa_cons pe_int pa_nil))) pe_int (nomark _)) pe_non (pv 8)))
      (pss_cons (ps_lock (ps_setLc (i := 9) (own := [("_law_field", 12), ("_law_kind", 11)]) (g := gTup K 2 (gCons (gName 12) (gCons (gName 11) gNil))) (by rfl) scB6.nd rfl rfl (sw_true rfl rfl rfl (by decide +kernel)) (pi_items (pv 5)) (blkOk_by (own := [("_law_field", 12), ("_law_kind", 11)]) (N := ["_law_box_here", "_law_book_here", "_law_name", "_law_some", "_law_source", "_law_fields", "_law_left", "_law_fit", "_law_where", "_law_items", "_law_path", "_law_kind", "_law_field"]) (sc := defScope sLoop) (by decide +kernel)) (fun _ _ _ _ _ => (pg_tup rfl (pgs_cons (pg_name (i := 12) scB6.nd rfl (Or.inl rfl)) (pgs_cons (pg_name (i := 11) scB6.nd rfl (Or.inl rfl)) pgs_nil)))) (fun _ _ _ _ _ => pts_nil) (fun _ _ _ _ _ => (pe_tup (pa_cons (pe_tup (pa_cons pe_str (pa_cons (pv 12) pa_nil))) (pa_cons (pv 11) pa_nil))))))
      (pss_one (ps_ret (pe_tup (pa_cons pe_str (pa_cons pe_str (pa_cons (pv 4) (pa_cons (pv 8) (pa_cons (pv 2) (pa_cons (pe_callG d_body.ok (hr.mono (by omega)) hG (by rfl) d_body.g d_body.kp d_body.b .nil pass0 (pa_cons (pv 0) (pa_cons (pv 1) (pa_cons (pv 2) (pa_cons (pe_op op_cat (pe_op op_cat (pv 3) (pv 9)) (pv 9)) (pa_cons pe_bl pa_nil)))))) pa_nil)))))))))))))))), ?_⟩
    obtain ⟨hlD, hll, hlp⟩ := id hLs
    obtain ⟨ks, hks⟩ := keys_txt (ll := ll) fun p hp => let ⟨z, e, _⟩ := hlp p hp; ⟨z, e⟩
    have lks : ks.length = ll.length := by have := congrArg List.length hks; simpa using this.symm
    -- the list
    refine ⟨.ref b, rfl, .ref B, rfl, B, .ref lD, rfl, by rw [← book_lists]; exact DGet.k (k := .inr "lists") hBB.2, lD, ll, ks, rfl, .inl hlD.2, hks, by omega, fun ys p perm _ np => ?_⟩
    have Bp := hB.new (u := .lst (ys.map V.str)) (hB.ne np)
    have op : Off b H (upd H p (.lst (ys.map V.str))) := Off.new np
    refine of_at Bp (by omega) upd_same (hB.ne np) (by rw [List.length_map, perm.length_eq, lks]; exact List.length_pos_iff.mpr hl0) (by rw [List.length_map, perm.length_eq]; omega) fun x H1 hx o1 B1 => ?_
    obtain ⟨src, p1, rfl, hp1, ep1, hv1⟩ := of_keys hks perm hx
    obtain ⟨z1, ez1, hw1, hla⟩ := hlp p1 hp1
    have hsrc : Wd src := by
      rw [ep1] at ez1
      injection ez1 with e
      rw [e]
      exact hw1
    have o01 : Off b H H1 := op.trans o1
    obtain ⟨t1, fd1, rw1, fs, rs, et1, a1, a2, hFF, _⟩ := hla.off o01
    rw [et1] at hv1
    have hB1 := hBB.off o01
    have hl1 := hlD.off o01
    refine ⟨.ref B, rfl, B, .ref lD, rfl, by rw [← book_lists]; exact DGet.k (k := .inr "lists") hB1.2, .str src, rfl, lD, .ref t1, rfl, by rw [← hv1]; exact DGet.k (k := .inr src) hl1.2, t1, _, 0, _, rfl, rfl, SqT.of a1.2, rfl, ?_⟩
    -- the field
    obtain ⟨hfl, hf0, hfm⟩ := hFF.mem
    obtain ⟨fk, hfk⟩ := keys_txt (ll := fs) fun p hp => let ⟨z, kd, e, _⟩ := hfm p hp; ⟨z, by rw [e]⟩
    have lfk : fk.length = fs.length := by have := congrArg List.length hfk; simpa using this.symm
    refine ⟨.ref b, rfl, .ref fd1, rfl, fd1, fs, fk, rfl, .inl a2.2, hfk, by omega, fun ys2 p2 perm2 _ np2 => ?_⟩
    have Bp2 := B1.new (u := .lst (ys2.map V.str)) (B1.ne np2)
    refine of_at Bp2 (by omega) upd_same (B1.ne np2) (by rw [List.length_map, perm2.length_eq, lfk]; exact List.length_pos_iff.mpr hf0) (by rw [List.length_map, perm2.length_eq]; omega) fun x H2 hx o2 B2 => ?_
    obtain ⟨left, p3, rfl, hp3, ep3, hv3⟩ := of_keys hfk perm2 hx
    obtain ⟨z3, kd, ez3, hw3, hkd⟩ := hfm p3 hp3
    subst ez3
    have hleft : Wd left := by
      injection ep3 with e
      rw [← e]
      exact hw3
    have hv3 : valV fs (.inr left) = some (.str kd) := hv3
    have o12 : Off b H1 H2 := (Off.new np2).trans o2
    have o02 : Off b H H2 := o01.trans o12
    have a22 := a2.off o12
    -- the paths that fit
    obtain ⟨xs, hl, hxl, hxs⟩ := hS.off o02
    have hxl28 : xs.length ≤ 28 := by
      obtain ⟨xs0, h0, _, _⟩ := id hS
      have h1 := hSl xs0 h0.2
      have h2 := o02.mem h0.1 h0.2
      have h3 := hl.2
      rw [h2] at h3
      cases h3
      exact h1
    refine ⟨.ref l, rfl, l, rfl, ⟨_, SqL.of hl.2⟩, fun D nD => ?_⟩
    have Db : D ≠ b := B2.ne nD
    refine lc_list (K := K) (a := l) (xs := xs) (fun i H3 => Off b H2 H3 ∧ Box H3 b (n + 2) ∧ ∃ ys, H3 D = some (.lst ys) ∧ ys.length ≤ i ∧ ∀ y ∈ ys, ∃ t q', y = .ref t ∧ At b H3 t (.tup [.str "path", q']) ∧ PathAt b H2 q') ⟨Off.new nD, B2.new Db, [], upd_same, Nat.zero_le _, fun _ h => by (cases h)⟩ (fun i H3 _ hP => SqL.of (hP.1.mem hl.1 hl.2)) (fun i x H3 hx hP => ?_) (fun H3 hP => ?_)
    · obtain ⟨o3, B3, ys, hD, hyl, hys⟩ := hP
      obtain ⟨t, q', k2, rfl, at2, hq, hk2⟩ := hxs x (List.mem_of_getElem? hx)
      have hi : i < xs.length := (List.getElem?_eq_some_iff.mp hx).1
      have a23 := a22.off o3
      refine ⟨t, _, rfl, SqT.of (o3.mem at2.1 at2.2), rfl, _, _, rfl, _, _, rfl, rfl, rfl, .str k2, rfl, .ref fd1, rfl, .str left, rfl, fd1, .str kd, rfl, by rw [← hv3]; exact DGet.k (k := .inr left) a23.2, rfl, _, rfl, ?_⟩
      refine ite2 (fun e => ?_) (fun e => ?_)
      · refine ⟨q', rfl, by show 2 ≤ sizeLine; decide, fun t4 nt4 => ?_⟩
        have o4 : Off b H3 (upd H3 t4 (.tup [.str "path", q'])) := Off.new nt4
        have hD4 := o4.mem Db hD
        have B4 := B3.new (u := .tup [.str "path", q']) (B3.ne nt4)
        have a4 : At b (upd H3 t4 (.tup [.str "path", q'])) t4 (.tup [.str "path", q']) := .new B3 nt4
        generalize upd H3 t4 (.tup [.str "path", q']) = H4 at o4 hD4 B4 a4
        refine ⟨ys, hD4, Nat.lt_of_le_of_lt (by omega : ys.length ≤ 1000) (by decide), (o3.trans o4).put nD, B4.new Db, ys ++ [.ref t4], upd_same, by simp; omega, fun y hy => ?_⟩
        have aL : ∀ {a : Addr} {zs : List V}, At b H4 a (.tup zs) → At b (upd H4 D (.lst (ys ++ [.ref t4]))) a (.tup zs) := fun {a zs} h => ⟨h.1, by rw [upd_ne (fun e => by have := h.2; rw [e, hD4] at this; cases this)]; exact h.2⟩
        rcases List.mem_append.mp hy with z | z
        · obtain ⟨t, q2, e, a, hp⟩ := hys y z
          exact ⟨t, q2, e, aL (a.off o4), hp⟩
        · rw [List.mem_singleton.mp z]
          exact ⟨t4, q', rfl, aL a4, hq⟩
      · exact ⟨o3, B3, ys, hD, by omega, hys⟩
    · obtain ⟨o3, B3, ys, hD, hyl, hys⟩ := hP
      have o03 := o02.trans o3
      have a23 := a22.off o3
      -- the right side
      refine ⟨.str left, rfl, .ref b, rfl, .ref D, rfl, .ref b, rfl, .ref fd1, rfl, .str left, rfl, fd1, .str kd, rfl, by rw [← hv3]; exact DGet.k (k := .inr left) a23.2, b, _, kd, rfl, B3, by omega, fun t4 x4 H4 a4 l4 _ o4 B4 => ⟨by show 1 ≤ sizeLine; decide, fun e1 ne1 => ?_⟩⟩
      have hD4 := o4.mem Db hD
      refine ⟨D, e1, ys, [.ref t4], rfl, rfl, by rw [upd_ne (ne_of_none hD4 ne1)]; exact hD4, upd_same, big_le (by show ys.length + 1 ≤ _; omega), fun e2 ne2 => ?_⟩
      have Be1 := B4.new (u := .lst [.ref t4]) (B4.ne ne1)
      have e2b : e2 ≠ b := Be1.ne ne2
      have Be2 := Be1.new (u := .lst (ys ++ [.ref t4])) e2b
      have oe : Off b H4 (upd (upd H4 e1 (.lst [.ref t4])) e2 (.lst (ys ++ [.ref t4]))) := (Off.new ne1).trans (Off.new ne2)
      have he2 : (upd (upd H4 e1 (.lst [.ref t4])) e2 (.lst (ys ++ [.ref t4]))) e2 = some (.lst (ys ++ [.ref t4])) := upd_same
      generalize upd (upd H4 e1 (.lst [.ref t4])) e2 (.lst (ys ++ [.ref t4])) = H5 at Be2 oe he2
      refine of_at Be2 (by omega) he2 e2b (by simp) (by simp; omega) fun y H6 hy o6 B6 => ⟨by show 2 ≤ sizeLine; decide, fun w7 nw7 => ?_⟩
      have o46 : Off b H4 H6 := oe.trans o6
      have ow : Off b H6 (upd H6 w7 (.tup [.str left, y])) := Off.new nw7
      have hwh : WhAt b (upd H6 w7 (.tup [.str left, y])) (.ref w7) := by
        rcases List.mem_append.mp hy with z | z
        · obtain ⟨t, q2, e, a, hp⟩ := hys y z
          subst e
          exact .inr ⟨w7, t, left, rfl, .new B6 nw7, hleft, .inl ⟨q2, ((a.off o4).off o46).off ow, hp.off (((o3.trans o4).trans o46).trans ow)⟩⟩
        · have z := List.mem_singleton.mp z
          subst z
          exact .inr ⟨w7, t4, left, rfl, .new B6 nw7, hleft, .inr ⟨x4, (a4.off o46).off ow, l4⟩⟩
      have B7 := B6.new (u := .tup [.str left, y]) (B6.ne nw7)
      have o07 : Off b H (upd H6 w7 (.tup [.str left, y])) := ((o03.trans o4).trans o46).trans ow
      have a27 := (((a22.off o3).off o4).off o46).off ow
      generalize upd H6 w7 (.tup [.str left, y]) = H7 at hwh B7 o07 a27
      -- none, or that one
      unfold gName
      dsimp only
      refine asg_anyB (R := fun v Hm => ∃ u : HO, Hm = upd H7 b u ∧ Box Hm b (n + 5) ∧ (v = .non ∨ v = .ref w7)) (fun Q' q' => ?_) (fun v Hm hv => ?_)
      · refine ⟨.ref b, rfl, b, 2, _, rfl, B7, by omega, by decide, by decide, fun r1 u1 r10 r11 B8 => ?_⟩
        refine ⟨rfl, _, rfl, ite2 (fun e => q' _ _ ⟨u1, rfl, B8.mono (by omega), .inl rfl⟩) (fun e => ⟨_, rfl, q' _ _ ⟨u1, rfl, B8.mono (by omega), .inr rfl⟩⟩)⟩
      · obtain ⟨u8, rfl, B8, hv⟩ := hv
        have o8 : Off b H7 (upd H7 b u8) := Off.box
        have hwv : WhAt b (upd H7 b u8) v := by
          rcases hv with rfl | rfl
          · exact .inl rfl
          · exact hwh.offT o8.t
        have o08 := o07.trans o8
        have a28 := a27.off o8
        generalize upd H7 b u8 = H8 at B8 o8 o08 hwv a28
        -- the items
        refine ⟨fd1, .dK fs, a28.2, trivial, fun od => ⟨.ref fd1, rfl, fd1, od, fs, rfl, upd_same, fun D9 nD9 => ?_⟩⟩
        have s0 : ∀ a o, a ≠ fd1 → H8 a = some o → (upd H8 fd1 (.frz od (.dK fs))) a = some o := fun a o na h => by rw [upd_ne na]; exact h
        have hff : (upd H8 fd1 (.frz od (.dK fs))) fd1 = some (.frz od (.dK fs)) := upd_same
        have hbb : ∃ ob, (upd H8 fd1 (.frz od (.dK fs))) b = some ob := by
          obtain ⟨o', m', c', h', _⟩ := B8
          exact ⟨_, s0 _ _ a28.1.symm h'⟩
        obtain ⟨ob, hob⟩ := hbb
        generalize upd H8 fd1 (.frz od (.dK fs)) = Hf at s0 hff hob nD9
        have D9b : D9 ≠ b := (ne_of_none hob nD9).symm
        refine lc_it (walk_items (kvs := fs)) (fun j Hc => Same Hf Hc ∧ ∃ ys, Hc D9 = some (.lst ys) ∧ ys.length ≤ j ∧ ∀ y ∈ ys, PairAt b Hc y) ⟨same_new nD9, [], upd_same, Nat.le_refl _, fun _ h => by (cases h)⟩ (fun j Hc _ hP => hP.1 _ _ hff) (fun j x Hc Hc' hj hP hY => ?_) (fun Hc hP => ?_)
        · obtain ⟨sc, ys', hD9, hyl', hys'⟩ := hP
          obtain ⟨T2, x1, x2, rfl, nT2, rfl, e1, e2⟩ := hY
          obtain ⟨⟨k2, v2⟩, hkv2⟩ : ∃ p, fs[j]? = some p := ⟨_, List.getElem?_eq_getElem hj⟩
          have e1 : (fs[j]?.map fun kv => kV kv.1) = some x1 := e1
          have e2 : (fs[j]?.map Prod.snd) = some x2 := e2
          rw [hkv2] at e1 e2
          cases e1
          cases e2
          obtain ⟨z2, kd2, ez2, hzw2, hkd2⟩ := hfm _ (List.mem_of_getElem? hkv2)
          cases ez2
          have sT : Same Hc (upd Hc T2 (.tup [kV (.inr z2), .str kd2])) := same_new nT2
          refine ⟨T2, _, rfl, SqT.of upd_same, rfl, _, _, rfl, _, _, rfl, rfl, rfl, ?_⟩
          generalize upd Hc T2 (.tup [kV (.inr z2), .str kd2]) = He at sT
          have hD9e := sT _ _ hD9
          have hyse : ∀ y ∈ ys', PairAt b He y := fun y hy => (hys' y hy).off (fun a o _ h => sT a o h)
          have sce : Same Hf He := fun a o h => sT _ _ (sc _ _ h)
          refine ⟨.str z2, rfl, by show 2 ≤ sizeLine; decide, fun q1 nq1 => ⟨.str kd2, rfl, by show 2 ≤ sizeLine; decide, fun t1 nt1 => ?_⟩⟩
          have s1 : Same He (upd He q1 (.tup [.str "it", .str z2])) := same_new nq1
          have s2 : Same He (upd (upd He q1 (.tup [.str "it", .str z2])) t1 (.tup [.ref q1, .str kd2])) := fun a o h => same_new nt1 _ _ (s1 _ _ h)
          have hobe := sce _ _ hob
          have q1b : q1 ≠ b := (ne_of_none hobe nq1).symm
          have t1b : t1 ≠ b := (ne_of_none (s1 _ _ hobe) nt1).symm
          have hD2g := s2 _ _ hD9e
          have pn : PairAt b (upd (upd He q1 (.tup [.str "it", .str z2])) t1 (.tup [.ref q1, .str kd2])) (.ref t1) :=
            ⟨t1, .ref q1, kd2, rfl, ⟨t1b, upd_same⟩, ⟨q1, ["it", z2], rfl, ⟨q1b, by rw [upd_ne (ne_of_none upd_same nt1)]; exact upd_same⟩, .inr rfl, fun w hw => by
              rcases List.mem_cons.mp hw with e | e
              · rw [e]; exact wdIt
              · rw [List.mem_singleton.mp e]; exact hzw2⟩, hkd2⟩
          have hysg : ∀ y ∈ ys', PairAt b (upd (upd He q1 (.tup [.str "it", .str z2])) t1 (.tup [.ref q1, .str kd2])) y := fun y hy => (hyse y hy).off (fun a o _ h => s2 a o h)
          generalize upd (upd He q1 (.tup [.str "it", .str z2])) t1 (.tup [.ref q1, .str kd2]) = Hg at s2 hD2g pn hysg
          refine ⟨ys', hD2g, Nat.lt_of_le_of_lt (by omega : ys'.length ≤ 1000) (by decide), fun a o h => ?_, ys' ++ [.ref t1], upd_same, by simp; omega, fun y hy => ?_⟩
          · rw [upd_ne (ne_of_none h nD9)]
            exact s2 _ _ (sce _ _ h)
          · have hp : PairAt b Hg y := by
              rcases List.mem_append.mp hy with z | z
              · exact hysg y z
              · rw [List.mem_singleton.mp z]
                exact pn
            have aL : ∀ {a : Addr} {zs : List V}, At b Hg a (.tup zs) → At b (upd Hg D9 (.lst (ys' ++ [.ref t1]))) a (.tup zs) := fun {a zs} h => ⟨h.1, by rw [upd_ne (fun e => by have := h.2; rw [e, hD2g] at this; cases this)]; exact h.2⟩
            obtain ⟨t, q', kd, e, a, ⟨q2, ws, e2, a2, r2⟩, r⟩ := hp
            exact ⟨t, q', kd, e, aL a, ⟨q2, ws, e2, aL a2, r2⟩, r⟩
        · obtain ⟨sc, ys', hD9, hyl', hys'⟩ := hP
          have hdc := sc _ _ hff
          have sa : Same H8 (upd Hc fd1 (.dK fs)) := fun a o h => by
            by_cases e : a = fd1
            · subst e
              rw [a28.2] at h
              cases h
              exact upd_same
            · rw [upd_ne e]
              exact sc _ _ (s0 a o e h)
          have D9d : D9 ≠ fd1 := fun e => by rw [e, hdc] at hD9; cases hD9
          have hD9f : (upd Hc fd1 (.dK fs)) D9 = some (.lst ys') := by rw [upd_ne D9d]; exact hD9
          have hysf : ∀ y ∈ ys', PairAt b (upd Hc fd1 (.dK fs)) y := fun y hy => (hys' y hy).offT (offT_frz hdc)
          have Bg := B8.same sa
          have og : Off b H8 (upd Hc fd1 (.dK fs)) := fun a o _ h => sa a o h
          refine ⟨hdc, ?_⟩
          generalize upd Hc fd1 (.dK fs) = Hg at sa hD9f hysf Bg og
          have o0g := o08.trans og
          obtain ⟨xs0, hl0', _, hxs0⟩ := hS.off o0g
          have hx0 : xs0.length ≤ 28 := by
            obtain ⟨xs1, h0, _, _⟩ := id hS
            have h1 := hSl xs1 h0.2
            have h2 := o0g.mem h0.1 h0.2
            have h3 := hl0'.2
            rw [h2] at h3
            cases h3
            exact h1
          refine ⟨.str src, rfl, v, rfl, .str nm, rfl, .ref b, rfl, .ref B, rfl, .str nm, rfl, .ref l, rfl, .ref D9, rfl, l, D9, xs0, ys', rfl, rfl, hl0'.2, hD9f, big_le (by omega), fun p1 np1 => ?_⟩
          have D9p : D9 ≠ p1 := ne_of_none hD9f np1
          refine ⟨.ref D9, rfl, p1, D9, xs0 ++ ys', ys', rfl, rfl, upd_same, by rw [upd_ne D9p]; exact hD9f, big_le (by simp; omega), fun p2 np2 => ?_⟩
          have Bp1 := Bg.new (u := .lst (xs0 ++ ys')) (Bg.ne np1)
          have p2b : p2 ≠ b := Bp1.ne np2
          have Bp2' := Bp1.new (u := .lst (xs0 ++ ys' ++ ys')) p2b
          have og2 : Off b Hg (upd (upd Hg p1 (.lst (xs0 ++ ys'))) p2 (.lst (xs0 ++ ys' ++ ys'))) := (Off.new np1).trans (Off.new np2)
          have hSn : SomeAt b (upd (upd Hg p1 (.lst (xs0 ++ ys'))) p2 (.lst (xs0 ++ ys' ++ ys'))) p2 := ⟨_, ⟨p2b, upd_same⟩, by simp; omega, fun x hx => by
            rcases List.mem_append.mp hx with z | z
            · rcases List.mem_append.mp z with z | z
              · exact (hxs0 x z).off og2
              · exact (hysf x z).off og2
            · exact (hysf x z).off og2⟩
          generalize upd (upd Hg p1 (.lst (xs0 ++ ys'))) p2 (.lst (xs0 ++ ys' ++ ys')) = Hh at Bp2' og2 hSn
          have o0h := o0g.trans og2
          refine ⟨b, B, lD, tD, kD, d, p2, _, m, nm, false, kk, rk, rfl, Bp2', by omega, hBB.off o0h, hkD.off o0h, hmr, hBK.off o0h, hval, hrk, hSn, hne, fun D' Ho hBD oo Bo => ⟨by show 6 ≤ sizeLine; decide, fun tp ntp => ?_⟩⟩
          have op := Off.new (b := b) (u := .tup [.str "loop", .str "it", .str src, v, .str nm, .ref D']) ntp
          have o8p : Off b H8 (upd Ho tp (.tup [.str "loop", .str "it", .str src, v, .str nm, .ref D'])) := ((og.trans og2).trans oo).trans op
          have nb0 : ∀ a, Hh a = none → H a = none := fun a ha => by
            by_cases e : a = b
            · obtain ⟨o', _, _, h', _⟩ := Bp2'
              rw [e, h'] at ha
              cases ha
            · exact o0h.none e ha
          obtain ⟨kvs, ad, hnd, hkl, hkk⟩ := hBD
          refine q tp _ ?_ (o08.trans o8p) ((Bo.new (Bo.ne ntp)).mono (by omega))
          cases r with
          | zero => omega
          | succ r' =>
            refine .inr ⟨tp, D', kvs, rfl, ad.off op, nb0 _ hnd, hkl, fun p hp => ?_, .inr (.inr ⟨src, nm, v, .new Bo ntp, hsrc, hnm, hwv.offT o8p.t⟩)⟩
            obtain ⟨z', e', hz', hv'⟩ := hkk p hp
            exact ⟨z', e', hz', hv'.tr nb0 op.v⟩
end
end M02

set_option Elab.async false
set_option linter.all false
set_option maxRecDepth 100000
set_option maxHeartbeats 4000000
/-! the entries of a declaring body: _law_entries -/
namespace M02
open PySem PySem.Spec PyProof.Rows L2 GL GT
theorem scB7 : FnScope ["_law_box_here", "_law_book_here", "_law_most", "_law_found", "_law_kinds", "_law_field", "_law_some", "_law_sort", "_law_is_out", "_law_names", "_law_name", "_law_inner", "_law_kind", "_law_body_here"] ["_law_box_here", "_law_book_here", "_law_most"] (defScope sEntries) := ⟨rfl, rfl, rfl, by decide +kernel, rfl, by decide +kernel, by decide +kernel⟩
/-- a test of which only this is known -/
theorem ifs_any {t : TT} {a b : TS} {D : Ends} {σ : L2.St} {H : Hp} {R : Bool → Hp → Prop} (h : ∀ Q' : Bool → Hp → Prop, (∀ c H', R c H' → Q' c H') → t σ H Q') (q : ∀ c H', R c H' → if c = true then a D σ H' else b D σ H') : tIfS t a b D σ H := h _ q
/-- a promise of many ranks -/
def Up (sp : Nat → Sp) : Sp := fun vs H Q E => ∃ r, r ≤ 3 ∧ sp r vs H Q E
theorem FnG.up {P : Program} {w : World} {K : PySem.W.Frag} {mg : Str → Option Value} {base : Heap} {k : Nat} {f : Addr} {fd : FuncData} {ps : List Str} {sp : Nat → Sp} (h : ∀ r, r ≤ 3 → FnG P w K mg base CX0 k f fd ps (sp r)) : FnG P w K mg base CX0 k f fd ps (Up sp) := by
  refine ⟨fun vs H Q E g => ?_, fun A outer s H args us vs Q E h1 h2 h3 h4 h5 g => ?_⟩
  · obtain ⟨r, hr, g⟩ := g
    exact (h r hr).len vs H Q E g
  · obtain ⟨r, hr, g⟩ := g
    exact (h r hr).run A outer s H args us vs Q E h1 h2 h3 h4 h5 g
/-- an entry: is it an output, and its value -/
def EV (b : Addr) (N : Addr → Prop) (H : Hp) (r : Nat) (v : V) : Prop := ∃ (t : Addr) (k : Bool) (x : V), v = .ref t ∧ At b H t (.tup [.bl k, x]) ∧ VV b N H r x
theorem EV.tr {b : Addr} {N N' : Addr → Prop} {H H' : Hp} {r : Nat} {v : V} (hN : ∀ a, N a → N' a) (x : TrV b N H H') (h : EV b N H r v) : EV b N' H' r v := let ⟨t, k, y, e, a, hv⟩ := h; ⟨t, k, y, e, a.tt x.1, hv.tr hN x⟩
theorem mem_cut {xs : List V} {lo hi : Option Int} {x : V} (h : x ∈ cutV xs lo hi) : x ∈ xs := List.mem_of_mem_drop (List.mem_of_mem_take h)
theorem len_cut {xs : List V} {k : Int} (h0 : 0 ≤ k) : (cutV xs none (some k)).length ≤ k.toNat := by
  obtain ⟨j, rfl⟩ := Int.eq_ofNat_of_zero_le h0
  unfold cutV
  rw [HT.sIx_none, HT.sIx_nat, List.length_take]
  simp
  omega
/-- between two entries -/
structure EI (b D3 D4 L0 : Addr) (H : Hp) (xs : List V) (kk : List (Key × V)) (rk : Addr → Nat) (m r i N : Nat) (Hi : Hp) : Prop where
  n3 : H D3 = none
  n4 : H D4 = none
  b3 : D3 ≠ b
  b4 : D4 ≠ b
  b0 : L0 ≠ b
  n34 : D3 ≠ D4
  off : Off b H Hi
  l0 : Hi L0 = some (.lst xs)
  box : Box Hi b N
  k : ∃ k3 k4 : List (Key × V), Hi D3 = some (.dK k3) ∧ Hi D4 = some (.dK k4) ∧ k3.length ≤ i ∧ k4.length ≤ i ∧ (∀ p ∈ k4, KindOk b Hi kk rk m p) ∧ ∀ p ∈ k3, ∃ z : Str, p.1 = .inr z ∧ Wd z ∧ EV b (fun a => H a = none ∧ a ≠ D3 ∧ a ≠ D4) Hi r p.2
section
variable {b D3 D4 L0 : Addr} {H Hi Hj : Hp} {xs : List V} {kk : List (Key × V)} {rk : Addr → Nat} {m r i N N' : Nat}
theorem EI.to (e : EI b D3 D4 L0 H xs kk rk m r i N Hi) (o : Off b Hi Hj) (B : Box Hj b N') : EI b D3 D4 L0 H xs kk rk m r i N' Hj := by
  obtain ⟨k3, k4, h3, h4, l3, l4, hk, hv⟩ := e.k
  exact ⟨e.n3, e.n4, e.b3, e.b4, e.b0, e.n34, e.off.trans o, o.mem e.b0 e.l0, B, k3, k4, o.mem e.b3 h3, o.mem e.b4 h4, l3, l4, fun p hp => (hk p hp).offT o.t, fun p hp => let ⟨z, e1, hz, h⟩ := hv p hp; ⟨z, e1, hz, h.tr (fun _ h => h) o.v⟩⟩
theorem EI.grow (e : EI b D3 D4 L0 H xs kk rk m r i N Hi) {z : Str} {v1 v2 : V} {k3 k4 : List (Key × V)} (h3 : Hi D3 = some (.dK k3)) (h4 : Hi D4 = some (.dK k4)) (hz : Wd z) (h1 : KindOk b Hi kk rk m (.inr z, v1)) (h2 : EV b (fun a => H a = none ∧ a ≠ D3 ∧ a ≠ D4) Hi r v2) :
    EI b D3 D4 L0 H xs kk rk m r (i + 1) N (upd (upd Hi D4 (.dK (putK k4 (.inr z) v1))) D3 (.dK (putK k3 (.inr z) v2))) := by
  obtain ⟨k3', k4', h3', h4', l3, l4, hk, hv⟩ := e.k
  rw [h3] at h3'
  cases h3'
  rw [h4] at h4'
  cases h4'
  have h34 : (upd Hi D4 (.dK (putK k4 (.inr z) v1))) D3 = some (.dK k3) := by rw [upd_ne e.n34]; exact h3
  have t1 : OffT b Hi (upd (upd Hi D4 (.dK (putK k4 (.inr z) v1))) D3 (.dK (putK k3 (.inr z) v2))) := (offT_dict h4).trans (offT_dict h34)
  have tv : TrV b (fun a => H a = none ∧ a ≠ D3 ∧ a ≠ D4) Hi (upd (upd Hi D4 (.dK (putK k4 (.inr z) v1))) D3 (.dK (putK k3 (.inr z) v2))) := ⟨t1, fun a ks hN _ h => by rw [upd_ne hN.2.1, upd_ne hN.2.2]; exact h⟩
  refine ⟨e.n3, e.n4, e.b3, e.b4, e.b0, e.n34, (e.off.put e.n4).put e.n3, ((t1 L0 xs e.b0).2 e.l0), (e.box.new e.b4).new e.b3, _, putK k4 (.inr z) v1, upd_same, ?_, Nat.le_trans (len_put _ _ _) (by omega), Nat.le_trans (len_put _ _ _) (by omega), fun p hp => ?_, fun p hp => ?_⟩
  · rw [upd_ne e.n34.symm]
    exact upd_same
  · rcases mem_put hp with z | z
    · rw [z]
      exact h1.offT t1
    · exact (hk p z).offT t1
  · rcases mem_put hp with y | y
    · rw [y]
      exact ⟨z, rfl, hz, h2.tr (fun _ h => h) tv⟩
    · obtain ⟨z', e1, hz', h⟩ := hv p y
      exact ⟨z', e1, hz', h.tr (fun _ h => h) tv⟩
theorem EI.nn (e : EI b D3 D4 L0 H xs kk rk m r i N Hi) : ∀ a, Hi a = none → H a = none ∧ a ≠ D3 ∧ a ≠ D4 := fun a ha => by
  obtain ⟨k3, k4, h3, h4, _⟩ := e.k
  refine ⟨e.off.none (e.box.ne ha) ha, fun z => ?_, fun z => ?_⟩
  · rw [z, h3] at ha
    cases ha
  · rw [z, h4] at ha
    cases ha
theorem EI.mono (e : EI b D3 D4 L0 H xs kk rk m r i N Hi) (h : N ≤ N') : EI b D3 D4 L0 H xs kk rk m r i N' Hi := e.to (Off.refl b Hi) (e.box.mono h)
theorem EI.same (e : EI b D3 D4 L0 H xs kk rk m r i N Hi) (s : Same Hi Hj) : EI b D3 D4 L0 H xs kk rk m r i N Hj := e.to (fun a o _ h => s a o h) (e.box.same s)
end
theorem kST : kitB "str" "tuple" = some false := by decide +kernel
theorem kTT : kitB "tuple" "tuple" = some true := by decide +kernel
section
variable {P : Program} {w : World} {K : PySem.W.Frag} {mg : Str → Option Value} {base : Heap}
def spEntries : Sp := fun vs H Q _ => ∃ (b B lD tD kD : Addr) (n m r : Nat) (most : Int) (kk ll tt : List (Key × V)) (rk : Addr → Nat), vs = [.ref b, .ref B, .int most] ∧ Box H b n ∧ n + 600 + 7 * cst r < 880000 ∧ 0 < most ∧ most ≤ 6 ∧ BookB b H B lD tD kD ∧ B ≠ tD ∧ At b H kD (.dK kk) ∧ m ≤ r ∧ r ≤ 3 ∧ BookK b H kk rk m ∧
  (∀ nm d', valV kk (.inr nm) = some (.ref d') → rk d' < m → d' ≠ B ∧ d' ≠ kD) ∧ ListsAt b H lD ll ∧ At b H tD (.dK tt) ∧ tt.length ≤ 4 ∧ (∀ p ∈ tt, ∃ (z : Str) (d : Addr), p.1 = .inr z ∧ Wd z ∧ valV kk (.inr z) = some (.ref d) ∧ rk d < m) ∧
  ∀ (t F Kd : Addr) (ff ks : List (Key × V)) (H' : Hp), At b H' t (.tup [.ref F, .ref Kd]) → At b H' F (.dK ff) → At b H' Kd (.dK ks) → H F = none → H Kd = none → F ≠ Kd → ff.length ≤ most.toNat → ks.length ≤ most.toNat → (∀ p ∈ ks, KindOk b H' kk rk m p) → (∀ p ∈ ff, ∃ z : Str, p.1 = .inr z ∧ Wd z ∧ EV b (fun a => H a = none ∧ a ≠ F ∧ a ≠ Kd) H' r p.2) → Off b H H' → Box H' b (n + 600 + 7 * cst r) → Q (.ref t) H'
theorem ok_entries {f : Addr} {fd : FuncData} (F : Fun K "_law_entries" "_law_entries" sEntries f fd) (T : Bl K mg) (d_take : DnG P w K mg base "_law_take" 1 ["_law_box_here", "_law_many"] spTake) (d_of : DnG P w K mg base "_law_of" 2 ["_law_box_here", "_law_some"] OfW)
    (d_value : DnG P w K mg base "_law_value" 5 ["_law_box_here", "_law_some", "_law_kind"] spValue) (d_paths : DnG P w K mg base "_law_paths" 1 ["_law_book_here", "_law_kinds"] spPaths)
    (d_body : DnG P w K mg base "_law_body" 8 ["_law_box_here", "_law_book_here", "_law_name", "_law_some", "_law_is_own"] (Up spBody)) (d_loop : DnG P w K mg base "_law_loop" 9 ["_law_box_here", "_law_book_here", "_law_name", "_law_some"] (Up spLoop)) :
    FnG P w K mg base CX0 10 f fd ["_law_box_here", "_law_book_here", "_law_most"] spEntries := by
  refine okG0 F scB7 (fun vs H Q E h => ?_) (fun cdv A outer s H vs Q E hr hG h => ?_)
  · obtain ⟨_, _, _, _, _, _, _, _, _, _, _, _, _, rfl, _⟩ := h
    rfl
  · obtain ⟨b, B, lD, tD, kD, n, m, r, most, kk, ll, tt, rk, rfl, hB, hn, hm0, hm6, hBB, Bt, hkD, hmr, hr3, hBK, hne, hLs, htD, htl, htt, q⟩ := h
    refine ⟨_, (pss_cons (ps_par (i := 3) (j := 4) (by rfl) scB7.nd rfl rfl (by decide) rfl rfl (pa_cons pe_dnewK (pa_cons pe_dnewK pa_nil)) (by rfl))
      (pss_cons (ps_for PassesOwn.never rfl (pi_list (pe_slice sl_list (pe_lst (pa_cons pe_str (pa_cons pe_str (pa_cons pe_str (pa_cons pe_str (pa_cons pe_str (pa_cons pe_str (pa_cons pe_str pa_nil)))))))) po_none (po_some (pe_op op_add pe_int (pe_callG d_take.ok (hr.mono (by omega)) hG (by rfl) d_take.g d_take.kp d_take.b .nil pass0 (pa_cons (pv 0) (pa_cons (pv 2) pa_nil))))))) (pg_name (i := 5) scB7.nd rfl (Or.inl rfl))
        (pss_cons (ps_par3 (i := 6) (j := 7) (l := 8) (by rfl) scB7.nd rfl rfl rfl (by decide) (by decide) (by decide) rfl rfl rfl (pa_cons (pe_callG d_paths.ok (hr.mono (by omega)) hG (by rfl) d_paths.g d_paths.kp d_paths.b .nil pass0 (pa_cons (pv 1) (pa_cons (pv 4) pa_nil))) (pa_cons (pe_callG d_take.ok (hr.mono (by omega)) hG (by rfl) d_take.g d_take.kp d_take.b .nil pass0 (pa_cons (pv 0) (pa_cons pe_int pa_nil))) (pa_cons (pe_cmpR op_eq (pe_callG d_take.ok (hr.mono (by omega)) hG (by rfl) d_take.g d_take.kp d_take.b .nil pass0 (pa_cons (pv 0) (pa_cons pe_int pa_nil))) pe_int (nomark _)) pa_nil))) (by rfl))
        (pss_cons (ps_set (i := 9) scB7.nd rfl (Or.inl rfl) (pe_callB cr_sortedS (by rfl) T.sorted (by decide +kernel) (pa_cons (pe_lock (pe_lc (own := [("_law_name", 10)]) (g := gName 10) (by rfl) scB7.nd (pi_keys (pe_dget (u1 hr) (pv 1) pe_str (fun _ _ => rfl))) (blkOk_by (own := [("_law_name", 10)]) (N := ["_law_box_here", "_law_book_here", "_law_most", "_law_found", "_law_kinds", "_law_field", "_law_some", "_law_sort", "_law_is_out", "_law_names", "_law_name", "_law_inner", "_law_kind", "_law_body_here"]) (sc := defScope sEntries) (by decide +kernel)) (fun _ _ _ _ _ => (pg_name (i := 10) scB7.nd rfl (Or.inl rfl))) (fun _ _ _ _ _ => (pts_one (pt_cmpR op_ne (pv 10) pe_str (nomark _)))) (fun _ _ _ _ _ => (pv 10)))) pa_nil)))
        (pss_cons (ps_lock (ps_setLc (i := 11) (own := [("_law_kind", 12)]) (g := gName 12) (by rfl) scB7.nd rfl rfl (sw_true rfl rfl rfl (by decide +kernel)) (pi_values (pv 4)) (blkOk_by (own := [("_law_kind", 12)]) (N := ["_law_box_here", "_law_book_here", "_law_most", "_law_found", "_law_kinds", "_law_field", "_law_some", "_law_sort", "_law_is_out", "_law_names", "_law_name", "_law_inner", "_law_kind", "_law_body_here"]) (sc := defScope sEntries) (by decide +kernel)) (fun _ _ _ _ _ => (pg_name (i := 12) scB7.nd rfl (Or.inl rfl))) (fun _ _ _ _ _ => (pts_one (pt_val (pe_callB (r := rIsi K) call_isi (by rfl) T.isinstance (by decide +kernel) (pa_cons (pv 12) (pa_cons (pe_bltn (v := .ty "tuple") (by rfl) T.tuple (by decide +kernel) rfl) pa_nil)))))) (fun _ _ _ _ _ => (pv 12))))
        (pss_one (ps_if (PW.pt (pw_and (pt_cmpR op_gt (pv 7) pe_int (nomark _)) (pw_and (pt_cmpR (op_neE hr.units0) (pv 9) (pe_lst pa_nil) (nomark _)) (pw_and1 (pt_cmpR op_lt (pe_callB call_len_seq (by rfl) T.len (by decide +kernel) (pa_cons (pv 11) pa_nil)) (pe_op op_add pe_int (pe_callTy call_int1 (by rfl) T.int (by decide +kernel) (pa_cons (pe_cmpR op_gt (pv 2) pe_int (nomark _)) pa_nil))) (nomark _))))))
          (pss_cons (ps_set (i := 10) scB7.nd rfl (Or.inl rfl) (pe_callG d_of.ok (hr.mono (by omega)) hG (by rfl) d_of.g d_of.kp d_of.b .nil pass0 (pa_cons (pv 0) (pa_cons (pv 9) pa_nil))))
          (pss_one (ps_if (PW.pt (pw_or (pt_cmpR op_eq (pv 7) pe_int (nomark _)) (pw_or1 (pt_cmpR (op_eqD0 hr.units0) (pe_dget (u1 hr) (pv 1) pe_str (fun _ _ => rfl)) pe_dnewK (nomark _)))))
            (pss_cons (ps_set (i := 13) scB7.nd rfl (Or.inl rfl) (pe_callG d_body.ok (hr.mono (by omega)) hG (by rfl) d_body.g d_body.kp d_body.b .nil pass0 (pa_cons (pv 0) (pa_cons (pv 1) (pa_cons (pv 10) (pa_cons (pv 6) (pa_cons pe_bl pa_nil)))))))
            (pss_one (ps_asg (pe_tup (pa_cons (pe_tup (pa_cons pe_str (pa_cons (pv 10) pa_nil))) (pa_cons (pe_tup (pa_cons (pv 8) (pa_cons (pe_tup (pa_cons pe_str (pa_cons (pv 10) (pa_cons (pv 13) pa_nil)))) pa_nil))) pa_nil))) (pg_tup rfl (pgs_cons (pg_sub (pv 4) (pv 5) (set_dict (u1 hr))) (pgs_cons (pg_sub (pv 3) (pv 5) (set_dict (u1 hr))) pgs_nil))))))
            (pss_one (ps_asg (pe_tup (pa_cons (pe_tup (pa_cons pe_str (pa_cons (pv 10) pa_nil))) (pa_cons (pe_tup (pa_cons pe_bl (pa_cons (pe_callG d_loop.ok (hr.mono (by omega)) hG (by rfl) d_loop.g d_loop.kp d_loop.b .nil pass0 (pa_cons (pv 0) (pa_cons (pv 1) (pa_cons (pv 10) (pa_cons (pv 6) pa_nil))))) pa_nil))) pa_nil))) (pg_tup rfl (pgs_cons (pg_sub (pv 4) (pv 5) (set_dict (u1 hr))) (pgs_cons (pg_sub (pv 3) (pv 5) (set_dict (u1 hr))) pgs_nil))))))))
          (pss_cons (ps_set (i := 12) scB7.nd rfl (Or.inl rfl) (pe_ifExp (pt_cmpR op_eq (pv 7) pe_int (nomark _)) pe_str pe_str))
          (pss_one (ps_asg (pe_tup (pa_cons (pv 12) (pa_cons (pe_tup (pa_cons (pv 8) (pa_cons (pe_callG d_value.ok (hr.mono (by omega)) hG (by rfl) d_value.g d_value.kp d_value.b .nil pass0 (pa_cons (pv 0) (pa_cons (pv 6) (pa_cons (pv 12) pa_nil)))) pa_nil))) pa_nil))) (pg_tup rfl (pgs_cons (pg_sub (pv 4) (pv 5) (set_dict (u1 hr))) (pgs_cons (pg_sub (pv 3) (pv 5) (set_dict (u1 hr))) pgs_nil))))))))))))
      (pss_one (ps_ret (pe_tup (pa_cons (pv 3) (pa_cons (pv 4) pa_nil))))))), ?_⟩
    refine fun D3 n3 => fun D4 n4 => ⟨_, _, rfl, ?_⟩
    have b3 : D3 ≠ b := hB.ne n3
    have B3 := hB.new (u := .dK []) b3
    have b4 : D4 ≠ b := B3.ne n4
    have n34 : D3 ≠ D4 := ne_of_none upd_same n4
    have n4H : H D4 = none := (Off.new (b := b) n3).none b4 n4
    have h3 : (upd (upd H D3 (.dK [])) D4 (.dK [])) D3 = some (.dK []) := by rw [upd_ne n34]; exact upd_same
    have h4 : (upd (upd H D3 (.dK [])) D4 (.dK [])) D4 = some (.dK []) := upd_same
    have o4 : Off b H (upd (upd H D3 (.dK [])) D4 (.dK [])) := (Off.new n3).trans (Off.new n4)
    have B4 := B3.new (u := .dK []) b4
    generalize upd (upd H D3 (.dK [])) D4 (.dK []) = H4 at h3 h4 o4 B4
    refine ⟨by show 7 ≤ sizeLine; decide, fun p np => ?_⟩
    have hp5 : (upd H4 p (.lst [.str "a", .str "b", .str "c", .str "d", .str "e", .str "f", .str "g"])) p = some (.lst [.str "a", .str "b", .str "c", .str "d", .str "e", .str "f", .str "g"]) := upd_same
    have pb := B4.ne np
    have B5 := B4.new (u := .lst [.str "a", .str "b", .str "c", .str "d", .str "e", .str "f", .str "g"]) pb
    have o5 : Off b H4 (upd H4 p (.lst [.str "a", .str "b", .str "c", .str "d", .str "e", .str "f", .str "g"])) := Off.new np
    generalize upd H4 p (.lst [.str "a", .str "b", .str "c", .str "d", .str "e", .str "f", .str "g"]) = H5 at hp5 B5 o5
    refine ⟨.ref b, rfl, .int most, rfl, b, most, _, rfl, B5, by omega, hm0, by omega, fun k u k0 k1 B6 => ⟨1, k, rfl, rfl, 1 + k, rfl, ?_⟩⟩
    have o6 : Off b H5 (upd H5 b u) := Off.box
    have hp6 := o6.mem pb hp5
    generalize upd H5 b u = H6 at B6 o6 hp6
    refine ⟨p, _, rfl, SqL.of hp6, fun L0 nL => ?_⟩
    have hxs : ∀ x ∈ cutV [.str "a", .str "b", .str "c", .str "d", .str "e", .str "f", .str "g"] none (some (1 + k)), ∃ z : Str, x = .str z ∧ Wd z := fun x hx => by
      have := mem_cut hx
      simp only [List.mem_cons, List.not_mem_nil, or_false] at this
      rcases this with e | e | e | e | e | e | e <;> exact ⟨_, e, wd_of (by decide +kernel)⟩
    have hxl : (cutV [.str "a", .str "b", .str "c", .str "d", .str "e", .str "f", .str "g"] none (some (1 + k))).length ≤ most.toNat := Nat.le_trans (len_cut (by omega)) (by omega)
    generalize cutV [.str "a", .str "b", .str "c", .str "d", .str "e", .str "f", .str "g"] none (some (1 + k)) = xs at hxs hxl
    have o46 := o5.trans o6
    have E0' : EI b D3 D4 L0 H xs kk rk m r 0 (n + 1) (upd H6 L0 (.lst xs)) := ⟨n3, n4H, b3, b4, B6.ne nL, n34, (o4.trans o46).trans (Off.new nL), upd_same, B6.new (B6.ne nL), [], [], (o46.trans (Off.new nL)).mem b3 h3, (o46.trans (Off.new nL)).mem b4 h4, Nat.le_refl _, Nat.le_refl _, fun _ h => by (cases h), fun _ h => by (cases h)⟩
    generalize upd H6 L0 (.lst xs) = H7 at E0'
    refine ⟨L0, rfl, ⟨_, SqL.of E0'.l0⟩, ?_⟩
    refine for_list (K := K) (a := L0) (xs := xs) (fun i σ Hi => ∃ y5 y6 y7 y8 y9 y10 y11 y12 y13 : Option V, σ = [some (.ref b), some (.ref B), some (.int most), some (.ref D3), some (.ref D4), y5, y6, y7, y8, y9, y10, y11, y12, y13] ∧ EI b D3 D4 L0 H xs kk rk m r i (n + 1 + i * (80 + cst r)) Hi)
      ⟨none, none, none, none, none, none, none, none, none, rfl, by rw [Nat.zero_mul]; exact E0'⟩ (fun i σ Hi _ hP => by obtain ⟨_, _, _, _, _, _, _, _, _, _, e⟩ := hP; exact SqL.of e.l0) (fun i x σ Hi hx hP => ?_) (fun σ Hi hP => ?_)
    · obtain ⟨y5, y6, y7, y8, y9, y10, y11, y12, y13, rfl, e⟩ := hP
      obtain ⟨z, rfl, hz⟩ := hxs x (List.mem_of_getElem? hx)
      have hi : i < xs.length := (List.getElem?_eq_some_iff.mp hx).1
      have hle : i ≤ 5 := by omega
      have hmul : i * (80 + cst r) ≤ 5 * (80 + cst r) := Nat.mul_le_mul_right _ hle
      have hsuc : (i + 1) * (80 + cst r) = i * (80 + cst r) + (80 + cst r) := Nat.succ_mul _ _
      generalize i * (80 + cst r) = c0 at e hmul hsuc
      rw [hsuc]
      obtain ⟨k3, k4, h3, h4, l3, l4, hk, hv⟩ := id e.k
      have ob : ∃ o, Hi b = some o := by
        obtain ⟨o', _, _, h', _⟩ := e.box
        exact ⟨_, h'⟩
      -- what may be read
      refine ⟨.ref B, rfl, .ref D4, rfl, b, B, lD, tD, kD, D4, kk, k4, rk, m, rfl, hBB.off e.off, hkD.off e.off, hBK.off e.off, ⟨b4, h4⟩, by omega, hk, ?_, ?_, fun nm d' ev hr' => ⟨?_, hne nm d' ev hr'⟩, ob, fun H8 l s8 hS _ hSl => ?_⟩
      · exact fun e' => by
          have := hBB.2
          rw [← e', n4H] at this
          cases this
      · exact fun e' => by
          have := hkD.2
          rw [← e', n4H] at this
          cases this
      · exact fun e' => by
          obtain ⟨gs, hg, _⟩ := hBK nm d' ev hr'
          have := hg.2
          rw [e', n4H] at this
          cases this
      have e8 := e.same s8
      obtain ⟨qs, hql, _, _⟩ := id hS
      have hq28 := hSl qs hql.2
      refine ⟨.ref b, rfl, b, 8, _, rfl, e8.box, by omega, by decide, by decide, fun so u1 s0 s1 B9 => ?_⟩
      have e9 := e8.to Off.box B9
      have hS9 : SomeAt b (upd H8 b u1) l := hS.off Off.box
      have hq9 : (upd H8 b u1) l = some (.lst qs) := Off.box l _ hql.1 hql.2
      generalize upd H8 b u1 = H9 at B9 e9 hS9 hq9
      refine ⟨.ref b, rfl, b, 4, _, rfl, B9, by omega, by decide, by decide, fun so2 u2 _ _ B10 => ⟨rfl, _, _, _, rfl, ?_⟩⟩
      have e10 := e9.to Off.box B10
      have hS10 : SomeAt b (upd H9 b u2) l := hS9.off Off.box
      have hq10 : (upd H9 b u2) l = some (.lst qs) := Off.box l _ hql.1 hq9
      generalize upd H9 b u2 = H10 at B10 e10 hS10 hq10
      generalize decide (V.int so2 = V.int 0) = out
      -- the names
      have ht10 := htD.off e10.off
      have hB10 := hBB.off e10.off
      refine ⟨tD, .dK tt, ht10.2, trivial, fun od => ⟨.ref B, rfl, B, .ref tD, rfl, by rw [← book_temps]; exact DGet.k (k := .inr "templates") (by rw [upd_ne Bt]; exact hB10.2), tD, od, rfl, .inl ⟨tt, upd_same, fun D11 nD11 => ?_⟩⟩⟩
      have s0' : ∀ a o, a ≠ tD → H10 a = some o → (upd H10 tD (.frz od (.dK tt))) a = some o := fun a o na h => by rw [upd_ne na]; exact h
      have hff : (upd H10 tD (.frz od (.dK tt))) tD = some (.frz od (.dK tt)) := upd_same
      generalize upd H10 tD (.frz od (.dK tt)) = Hf at s0' hff nD11
      refine lc_it (walk_keys (kvs := tt)) (fun j Hc => Same Hf Hc ∧ ∃ ys : List Str, Hc D11 = some (.lst (ys.map V.str)) ∧ ys.length ≤ j ∧ ∀ y ∈ ys, ∃ d, Wd y ∧ valV kk (.inr y) = some (.ref d) ∧ rk d < m) ⟨same_new nD11, [], upd_same, Nat.le_refl _, fun _ h => by (cases h)⟩ (fun j Hc _ hP => hP.1 _ _ hff) (fun j x Hc Hc' hj hP hY => ?_) (fun Hc hP => ?_)
      · obtain ⟨sc, ys, hD, hyl, hys⟩ := hP
        obtain ⟨rfl, kq, vq, hkq, rfl⟩ := hY
        obtain ⟨zq, dq, ezq, hwq, hvq, hrq⟩ := htt _ (List.mem_of_getElem? hkq)
        have ezq : kq = .inr zq := ezq
        subst ezq
        refine ⟨rfl, .str zq, rfl, rfl, _, rfl, ?_⟩
        refine ite2 (fun _ => ?_) (fun _ => ?_)
        · refine ⟨.str zq, rfl, _, hD, Nat.lt_of_le_of_lt (by rw [List.length_map]; omega : (ys.map V.str).length ≤ 1000) (by decide), fun a o h => ?_, ys ++ [zq], by rw [List.map_append]; exact upd_same, by simp; omega, fun y hy => ?_⟩
          · rw [upd_ne (ne_of_none h nD11)]
            exact sc _ _ h
          · rcases List.mem_append.mp hy with y' | y'
            · exact hys y y'
            · rw [List.mem_singleton.mp y']
              exact ⟨dq, hwq, hvq, hrq⟩
        · exact ⟨sc, ys, hD, by omega, hys⟩
      obtain ⟨sc, ys, hD, hyl, hys⟩ := hP
      have hdc := sc _ _ hff
      have sa : Same H10 (upd Hc tD (.dK tt)) := fun a o h => by
        by_cases e : a = tD
        · subst e
          rw [ht10.2] at h
          cases h
          exact upd_same
        · rw [upd_ne e]
          exact sc _ _ (s0' a o e h)
      have D11t : D11 ≠ tD := fun e => by rw [e, hdc] at hD; cases hD
      have hDf : (upd Hc tD (.dK tt)) D11 = some (.lst (ys.map V.str)) := by rw [upd_ne D11t]; exact hD
      refine ⟨hdc, D11, ys, rfl, SqL.of hDf, by omega, fun zs pz perm _ npz => ?_⟩
      have hzs : ∀ y ∈ zs, ∃ d, Wd y ∧ valV kk (.inr y) = some (.ref d) ∧ rk d < m := fun y hy => hys y (perm.mem_iff.mp hy)
      have hzl : zs.length ≤ 4 := by rw [perm.length_eq]; omega
      have sb : Same H10 (upd (upd Hc tD (.dK tt)) pz (.lst (zs.map V.str))) := fun a o h => same_new npz _ _ (sa a o h)
      have e12 := e10.same sb
      have hS12 : SomeAt b (upd (upd Hc tD (.dK tt)) pz (.lst (zs.map V.str))) l := hS10.off (fun a o _ h => sb a o h)
      have hq12 := sb _ _ hq10
      have hpz : (upd (upd Hc tD (.dK tt)) pz (.lst (zs.map V.str))) pz = some (.lst (zs.map V.str)) := upd_same
      generalize upd (upd Hc tD (.dK tt)) pz (.lst (zs.map V.str)) = H12 at sb e12 hS12 hq12 hpz
      -- the inner ones
      obtain ⟨q3, q4, g3, g4, _, ql4, gk, _⟩ := id e12.k
      refine ⟨D4, .dK q4, g4, trivial, fun od4 => ⟨.ref D4, rfl, D4, od4, q4, rfl, upd_same, fun D13 nD13 => ?_⟩⟩
      have s4 : ∀ a o, a ≠ D4 → H12 a = some o → (upd H12 D4 (.frz od4 (.dK q4))) a = some o := fun a o na h => by rw [upd_ne na]; exact h
      have gff : (upd H12 D4 (.frz od4 (.dK q4))) D4 = some (.frz od4 (.dK q4)) := upd_same
      have gk4 : ∀ p ∈ q4, KindOk b (upd H12 D4 (.frz od4 (.dK q4))) kk rk m p := fun p hp => (gk p hp).offT (offT_dict g4)
      generalize upd H12 D4 (.frz od4 (.dK q4)) = Hf4 at s4 gff gk4 nD13
      refine lc_it (walk_values (kvs := q4)) (fun j Hc => Same Hf4 Hc ∧ ∃ ys : List V, Hc D13 = some (.lst ys) ∧ ys.length ≤ j) ⟨same_new nD13, [], upd_same, Nat.le_refl _⟩ (fun j Hc _ hP => hP.1 _ _ gff) (fun j x Hc Hc' hj hP hY => ?_) (fun Hc2 hP => ?_)
      · obtain ⟨sc, ys, hD, hyl⟩ := hP
        obtain ⟨rfl, kq, hkq⟩ := hY
        obtain ⟨zq, _, _, hkd⟩ := gk4 _ (List.mem_of_getElem? hkq)
        rcases hkd with ⟨kd, ekd, _⟩ | ⟨tq, wq, nq, dq, ekd, aq, _⟩
        · have ekd : x = .str kd := ekd
          subst ekd
          refine ⟨rfl, .str kd, rfl, .str kd, .ty "tuple", _, _, false, rfl, .ty "tuple", .base (.str kd), kit_ty kST, false, rfl, ?_⟩
          exact iteF ⟨sc, ys, hD, by omega⟩
        · have ekd : x = .ref tq := ekd
          subst ekd
          refine ⟨rfl, .ref tq, rfl, .ref tq, .ty "tuple", _, _, true, rfl, .ty "tuple", .base (.tup (sc _ _ aq.2)), kit_ty kTT, true, rfl, ?_⟩
          refine iteT ⟨.ref tq, rfl, ys, hD, Nat.lt_of_le_of_lt (by omega : ys.length ≤ 1000) (by decide), fun a o h => ?_, _, upd_same, by simp; omega⟩
          rw [upd_ne (ne_of_none h nD13)]
          exact sc _ _ h
      obtain ⟨sc4, ys4, hD13, _⟩ := hP
      have gdc := sc4 _ _ gff
      have sa4 : Same H12 (upd Hc2 D4 (.dK q4)) := fun a o h => by
        by_cases e : a = D4
        · subst e
          rw [g4] at h
          cases h
          exact upd_same
        · rw [upd_ne e]
          exact sc4 _ _ (s4 a o e h)
      have D13t : D13 ≠ D4 := fun e => by rw [e, gdc] at hD13; cases hD13
      have hD13f : (upd Hc2 D4 (.dK q4)) D13 = some (.lst ys4) := by rw [upd_ne D13t]; exact hD13
      refine ⟨gdc, ?_⟩
      have e13 := e12.same sa4
      have hS13 : SomeAt b (upd Hc2 D4 (.dK q4)) l := hS12.off (fun a o _ h => sa4 a o h)
      have hq13 := sa4 _ _ hq12
      have hpz13 := sa4 _ _ hpz
      have pzb : pz ≠ b := e10.box.same sa |>.ne npz
      generalize upd Hc2 D4 (.dK q4) = H13 at sa4 hD13f e13 hS13 hq13 hpz13
      -- which sort
      dsimp only
      refine ifs_any (R := fun c H' => Same H13 H' ∧ (c = true → zs ≠ [])) (fun Q' q' => ?_) (fun c H14 hc => ?_)
      · refine ⟨.int so, rfl, so, 5, rfl, rfl, _, rfl, ite2 (fun _ => ?_) (fun _ => q' _ _ ⟨fun _ _ h => h, fun h => by cases h⟩)⟩
        refine ⟨.ref pz, rfl, Nat.zero_le _, fun e1 ne1 => ⟨pz, e1, _, rfl, rfl, SqL.of (same_new ne1 _ _ hpz13), SqL.of upd_same, _, rfl, ite2 (fun e' => ?_) (fun _ => q' _ _ ⟨same_new ne1, fun h => by cases h⟩)⟩⟩
        refine ⟨.ref D13, rfl, D13, ys4, rfl, .inl (SqL.of (same_new ne1 _ _ hD13f)), .int most, rfl, most, 4, rfl, rfl, .inr ⟨_, rfl, 1, _, rfl, rfl, _, _, rfl, rfl, _, rfl, q' _ _ ⟨same_new ne1, fun _ z => ?_⟩⟩⟩
        rw [z] at e'
        cases e'
      · obtain ⟨s14, hc⟩ := hc
        have e14 := e13.same s14
        have hS14 : SomeAt b H14 l := hS13.off (fun a o _ h => s14 a o h)
        have hq14 := s14 _ _ hq13
        have hpz14 := s14 _ _ hpz13
        cases c with
        | true =>
          rw [if_pos rfl]
          have hz0 : 0 < zs.length := List.length_pos_iff.mpr (hc rfl)
          refine ⟨.ref b, rfl, .ref pz, rfl, of_at e14.box (by omega) hpz14 pzb (by rw [List.length_map]; exact hz0) (by rw [List.length_map]; omega) fun x H15 hx o15 B15 => ?_⟩
          obtain ⟨nm, hnm, rfl⟩ := List.mem_map.mp hx
          obtain ⟨d, hw, hval, hrk⟩ := hzs nm hnm
          have e15 := e14.to o15 B15
          have hS15 := hS14.off o15
          have hq15 := o15.mem hql.1 hq14
          have hL15 := hLs.off e15.off
          have hB15 := hBB.off e15.off
          unfold gName
          dsimp only
          refine ifs_any (R := fun c H' => Same H15 H' ∧ (c = false → ll ≠ [])) (fun Q' q' => ?_) (fun c H16 hc2 => ?_)
          · refine ⟨.int so, rfl, rfl, _, rfl, ite2 (fun _ => q' _ _ ⟨fun _ _ h => h, fun h => by cases h⟩) (fun _ => ?_)⟩
            refine ⟨.ref B, rfl, B, .ref lD, rfl, by rw [← book_lists]; exact DGet.k (k := .inr "lists") hB15.2, fun e1 ne1 => ⟨lD, e1, ll, rfl, rfl, same_new ne1 _ _ hL15.1.2, upd_same, _, rfl, q' _ _ ⟨same_new ne1, fun h z => ?_⟩⟩⟩
            rw [z] at h
            cases h
          · obtain ⟨s16, hc2⟩ := hc2
            have e16 := e15.same s16
            have hS16 : SomeAt b H16 l := hS15.off (fun a o _ h => s16 a o h)
            have hq16 := s16 _ _ hq15
            have o16 := e16.off
            have nn := e16.nn
            have hr0 : 0 < r := by omega
            cases c with
            | true =>
              rw [if_pos rfl]
              refine ⟨.ref b, rfl, .ref B, rfl, .str nm, rfl, .ref l, rfl, r, hr3, b, B, lD, tD, kD, d, l, _, m, nm, false, kk, rk, rfl, e16.box, by omega, hBB.off o16, hkD.off o16, hmr, hBK.off o16, hval, hrk, hS16, hne, fun D' Ho hBD oo Bo => ?_⟩
              have e17 := e16.to oo Bo
              refine ⟨.str nm, rfl, by show 2 ≤ sizeLine; decide, fun t1 nt1 => ?_⟩
              have on1 : Off b Ho (upd Ho t1 (.tup [.str "record", .str nm])) := Off.new nt1
              have a1 : At b (upd Ho t1 (.tup [.str "record", .str nm])) t1 _ := .new Bo nt1
              have B1 := Bo.new (u := .tup [.str "record", .str nm]) (Bo.ne nt1)
              generalize upd Ho t1 (.tup [.str "record", .str nm]) = G1 at on1 a1 B1
              refine ⟨.bl out, rfl, .str nm, rfl, .ref D', rfl, by show 3 ≤ sizeLine; decide, fun t2 nt2 => ?_⟩
              have on2 : Off b G1 (upd G1 t2 (.tup [.str "new", .str nm, .ref D'])) := Off.new nt2
              have a2 : At b (upd G1 t2 (.tup [.str "new", .str nm, .ref D'])) t2 _ := .new B1 nt2
              have B2 := B1.new (u := .tup [.str "new", .str nm, .ref D']) (B1.ne nt2)
              generalize upd G1 t2 (.tup [.str "new", .str nm, .ref D']) = G2 at on2 a2 B2
              refine ⟨by show 2 ≤ sizeLine; decide, fun t3 nt3 => ?_⟩
              have on3 : Off b G2 (upd G2 t3 (.tup [.bl out, .ref t2])) := Off.new nt3
              have a3 : At b (upd G2 t3 (.tup [.bl out, .ref t2])) t3 _ := .new B2 nt3
              have B3' := B2.new (u := .tup [.bl out, .ref t2]) (B2.ne nt3)
              generalize upd G2 t3 (.tup [.bl out, .ref t2]) = G3 at on3 a3 B3'
              refine ⟨by show 2 ≤ sizeLine; decide, fun t4 nt4 => ?_⟩
              have on4 : Off b G3 (upd G3 t4 (.tup [.ref t1, .ref t3])) := Off.new nt4
              have a4 : At b (upd G3 t4 (.tup [.ref t1, .ref t3])) t4 _ := .new B3' nt4
              have B4' := B3'.new (u := .tup [.ref t1, .ref t3]) (B3'.ne nt4)
              generalize upd G3 t4 (.tup [.ref t1, .ref t3]) = G4 at on4 a4 B4'
              have o14 := (on2.trans on3).trans on4
              have e18 := e17.to (on1.trans o14) B4'
              obtain ⟨w3, w4, x3, x4, wl3, wl4, _, _⟩ := id e18.k
              refine ⟨t4, _, rfl, SqT.of a4.2, rfl, _, _, rfl, .ref D4, rfl, .str z, rfl, D4, _, rfl, DPut.k (k := .inr z) x4 (Nat.lt_of_le_of_lt (by omega : w4.length ≤ 1000) (by decide)), _, _, rfl, .ref D3, rfl, .str z, rfl, D3, _, rfl, DPut.k (k := .inr z) (by rw [upd_ne n34]; exact x3) (Nat.lt_of_le_of_lt (by omega : w3.length ≤ 1000) (by decide)), rfl, ?_⟩
              refine ⟨_, _, _, _, _, _, _, _, _, rfl, ((e18.grow x3 x4 hz ⟨z, rfl, hz, .inr ⟨t1, "record", nm, d, rfl, a1.off o14, .inl rfl, hw, hval, hrk⟩⟩ ?_).mono (by omega))⟩
              refine ⟨t3, out, .ref t2, rfl, a3.off on4, ?_⟩
              obtain ⟨kvs, ad, hnd, hkl, hkk⟩ := hBD
              have oF := on1.trans o14
              cases r with
              | zero => omega
              | succ r' =>
                refine .inr ⟨t2, D', kvs, rfl, ad.off oF, nn _ hnd, hkl, fun p hp => ?_, .inr (.inl ⟨nm, a2.off (on3.trans on4), hw⟩)⟩
                obtain ⟨z', e', hz', hv'⟩ := hkk p hp
                exact ⟨z', e', hz', hv'.tr nn oF.v⟩
            | false =>
              rw [if_neg (by decide)]
              refine ⟨.str nm, rfl, by show 2 ≤ sizeLine; decide, fun t1 nt1 => ?_⟩
              have on1 : Off b H16 (upd H16 t1 (.tup [.str "rows", .str nm])) := Off.new nt1
              have a1 : At b (upd H16 t1 (.tup [.str "rows", .str nm])) t1 _ := .new e16.box nt1
              have B1 := e16.box.new (u := .tup [.str "rows", .str nm]) (e16.box.ne nt1)
              have e17 := e16.to on1 B1
              generalize upd H16 t1 (.tup [.str "rows", .str nm]) = G1 at on1 a1 B1 e17
              have o17 := e17.off
              have nn' := e17.nn
              have hq17 := on1.mem hql.1 hq16
              refine ⟨.ref b, rfl, .ref B, rfl, .str nm, rfl, .ref l, rfl, r, hr3, b, B, lD, tD, kD, d, l, _, m, nm, kk, ll, rk, rfl, e17.box, by omega, hBB.off o17, hkD.off o17, hmr, hBK.off o17, hval, hw, hrk, hS16.off on1, fun ws hws => ?_, hne, hLs.off o17, hc2 rfl, fun t2 Ho hVV oo Bo => ?_⟩
              · rw [hq17] at hws
                cases hws
                exact hq28
              refine ⟨by show 2 ≤ sizeLine; decide, fun t3 nt3 => ?_⟩
              have on3 : Off b Ho (upd Ho t3 (.tup [.bl false, .ref t2])) := Off.new nt3
              have a3 : At b (upd Ho t3 (.tup [.bl false, .ref t2])) t3 _ := .new Bo nt3
              have B3' := Bo.new (u := .tup [.bl false, .ref t2]) (Bo.ne nt3)
              generalize upd Ho t3 (.tup [.bl false, .ref t2]) = G3 at on3 a3 B3'
              refine ⟨by show 2 ≤ sizeLine; decide, fun t4 nt4 => ?_⟩
              have on4 : Off b G3 (upd G3 t4 (.tup [.ref t1, .ref t3])) := Off.new nt4
              have a4 : At b (upd G3 t4 (.tup [.ref t1, .ref t3])) t4 _ := .new B3' nt4
              have B4' := B3'.new (u := .tup [.ref t1, .ref t3]) (B3'.ne nt4)
              generalize upd G3 t4 (.tup [.ref t1, .ref t3]) = G4 at on4 a4 B4'
              have oF := on3.trans on4
              have e18 := e17.to (oo.trans oF) B4'
              obtain ⟨w3, w4, x3, x4, wl3, wl4, _, _⟩ := id e18.k
              refine ⟨t4, _, rfl, SqT.of a4.2, rfl, _, _, rfl, .ref D4, rfl, .str z, rfl, D4, _, rfl, DPut.k (k := .inr z) x4 (Nat.lt_of_le_of_lt (by omega : w4.length ≤ 1000) (by decide)), _, _, rfl, .ref D3, rfl, .str z, rfl, D3, _, rfl, DPut.k (k := .inr z) (by rw [upd_ne n34]; exact x3) (Nat.lt_of_le_of_lt (by omega : w3.length ≤ 1000) (by decide)), rfl, ?_⟩
              refine ⟨_, _, _, _, _, _, _, _, _, rfl, ((e18.grow x3 x4 hz ⟨z, rfl, hz, .inr ⟨t1, "rows", nm, d, rfl, (a1.off oo).off oF, .inr rfl, hw, hval, hrk⟩⟩ ?_).mono (by omega))⟩
              exact ⟨t3, false, .ref t2, rfl, a3.off on4, hVV.tr nn' oF.v⟩
        | false =>
          rw [if_neg (by decide)]
          refine asg_anyB (R := fun v H' => H' = H14 ∧ ∃ kd : Str, v = .str kd ∧ KindS kd) (fun Q' q' => ?_) (fun v H15 hv => ?_)
          · exact ⟨.int so, rfl, rfl, _, rfl, ite2 (fun _ => q' _ _ ⟨rfl, _, rfl, .inr rfl⟩) (fun _ => q' _ _ ⟨rfl, _, rfl, .inl rfl⟩)⟩
          · obtain ⟨rfl, kd, rfl, hkd⟩ := hv
            refine ⟨.str kd, rfl, .bl out, rfl, .ref b, rfl, .ref l, rfl, .str kd, rfl, b, l, _, kd, rfl, e14.box, by omega, hS14, fun v Ho hVV oo Bo => ⟨by show 2 ≤ sizeLine; decide, fun t3 nt3 => ?_⟩⟩
            have on3 : Off b Ho (upd Ho t3 (.tup [.bl out, v])) := Off.new nt3
            have a3 : At b (upd Ho t3 (.tup [.bl out, v])) t3 _ := .new Bo nt3
            have B3' := Bo.new (u := .tup [.bl out, v]) (Bo.ne nt3)
            generalize upd Ho t3 (.tup [.bl out, v]) = G3 at on3 a3 B3'
            refine ⟨by show 2 ≤ sizeLine; decide, fun t4 nt4 => ?_⟩
            have on4 : Off b G3 (upd G3 t4 (.tup [.str kd, .ref t3])) := Off.new nt4
            have a4 : At b (upd G3 t4 (.tup [.str kd, .ref t3])) t4 _ := .new B3' nt4
            have B4' := B3'.new (u := .tup [.str kd, .ref t3]) (B3'.ne nt4)
            generalize upd G3 t4 (.tup [.str kd, .ref t3]) = G4 at on4 a4 B4'
            have oF := on3.trans on4
            have e18 := e14.to (oo.trans oF) B4'
            obtain ⟨w3, w4, x3, x4, wl3, wl4, _, _⟩ := id e18.k
            refine ⟨t4, _, rfl, SqT.of a4.2, rfl, _, _, rfl, .ref D4, rfl, .str z, rfl, D4, _, rfl, DPut.k (k := .inr z) x4 (Nat.lt_of_le_of_lt (by omega : w4.length ≤ 1000) (by decide)), _, _, rfl, .ref D3, rfl, .str z, rfl, D3, _, rfl, DPut.k (k := .inr z) (by rw [upd_ne n34]; exact x3) (Nat.lt_of_le_of_lt (by omega : w3.length ≤ 1000) (by decide)), rfl, ?_⟩
            exact ⟨_, _, _, _, _, _, _, _, _, rfl, ((e18.grow x3 x4 hz ⟨z, rfl, hz, .inl ⟨kd, rfl, hkd⟩⟩ ⟨t3, out, v, rfl, a3.off on4, VV.zero (hVV.off oF)⟩).mono (by omega))⟩
    · obtain ⟨_, _, _, _, _, _, _, _, _, rfl, e⟩ := hP
      obtain ⟨k3, k4, h3, h4, l3, l4, hk, hv⟩ := e.k
      refine ⟨.ref D3, rfl, .ref D4, rfl, by show 2 ≤ sizeLine; decide, fun t nt => ?_⟩
      have o : Off b Hi (upd Hi t (.tup [.ref D3, .ref D4])) := Off.new nt
      have hle : xs.length ≤ 6 := by omega
      have hmul : xs.length * (80 + cst r) ≤ 6 * (80 + cst r) := Nat.mul_le_mul_right _ hle
      exact q t D3 D4 k3 k4 _ (.new e.box nt) ⟨b3, o.mem b3 h3⟩ ⟨b4, o.mem b4 h4⟩ n3 n4H n34 (by omega) (by omega) (fun p hp => (hk p hp).offT o.t) (fun p hp => let ⟨z, e1, hz, h⟩ := hv p hp; ⟨z, e1, hz, h.tr (fun _ h => h) o.v⟩) (e.off.trans o) ((e.box.new (e.box.ne nt)).mono (by omega))
end
end M02

set_option Elab.async false
set_option linter.all false
set_option maxRecDepth 100000
set_option maxHeartbeats 4000000
/-! the book: the heap without its own dicts, what a template is -/
namespace M02
open PySem PySem.Spec PyProof.Rows L2 GL GT
/-- the heap without the book's four dicts -/
def ers (B l t k : Addr) (H : Hp) : Hp := fun a => if a = B ∨ a = l ∨ a = t ∨ a = k then none else H a
section
variable {b B l t k : Addr} {H H' : Hp}
theorem ers_off : Off b (ers B l t k H) H := fun a o _ h => by
  unfold ers at h
  split at h
  · cases h
  · exact h
theorem ers_some {a : Addr} {o : HO} (h : ers B l t k H a = some o) : ¬ (a = B ∨ a = l ∨ a = t ∨ a = k) ∧ H a = some o := by
  unfold ers at h
  split at h
  · cases h
  · exact ⟨by assumption, h⟩
theorem ers_mem {a : Addr} {o : HO} (h : H a = some o) (n : ¬ (a = B ∨ a = l ∨ a = t ∨ a = k)) : ers B l t k H a = some o := by
  unfold ers
  rw [if_neg n]
  exact h
theorem Off.ers (x : Off b H H') : Off b (ers B l t k H) (ers B l t k H') := fun a o n h => by
  obtain ⟨n1, h1⟩ := ers_some h
  exact ers_mem (x a o n h1) n1
theorem ers_put {p : Addr} {u : HO} (h : p = B ∨ p = l ∨ p = t ∨ p = k) : ers B l t k (upd H p u) = ers B l t k H := by
  funext a
  unfold ers
  by_cases z : a = B ∨ a = l ∨ a = t ∨ a = k
  · rw [if_pos z, if_pos z]
  · rw [if_neg z, if_neg z, upd_ne (fun e => z (by rw [e]; exact h))]
/-- tuples and lists are none of the four -/
theorem ers_t {k1 k2 k3 k4 : List (Key × V)} (h1 : H B = some (.dK k1)) (h2 : H l = some (.dK k2)) (h3 : H t = some (.dK k3)) (h4 : H k = some (.dK k4)) : OffT b H (ers B l t k H) := fun a xs n => by
  have nd : ∀ {o : HO}, (∀ ks, o ≠ .dK ks) → H a = some o → ¬ (a = B ∨ a = l ∨ a = t ∨ a = k) := fun {o} ho h z => by
    rcases z with e | e | e | e <;> subst e
    · rw [h1] at h; cases h; exact ho _ rfl
    · rw [h2] at h; cases h; exact ho _ rfl
    · rw [h3] at h; cases h; exact ho _ rfl
    · rw [h4] at h; cases h; exact ho _ rfl
  exact ⟨fun h => ers_mem h (nd (fun _ e => by cases e) h), fun h => ers_mem h (nd (fun _ e => by cases e) h)⟩
theorem At.ers {a : Addr} {o : HO} (h : At b H a o) (n : ¬ (a = B ∨ a = l ∨ a = t ∨ a = k)) : At b (ers B l t k H) a o := ⟨h.1, ers_mem h.2 n⟩
end
/-- none of the book's dicts -/
def NB (B l t k : Addr) : Addr → Prop := fun a => ¬ (a = B ∨ a = l ∨ a = t ∨ a = k)
/-- a template or the document: its base, its entries -/
def TempAt (b : Addr) (N : Addr → Prop) (H : Hp) (r most : Nat) (v : V) : Prop := ∃ (t : Addr) (bs : V) (D : Addr) (kvs : List (Key × V)), v = .ref t ∧ At b H t (.tup [bs, .ref D]) ∧ (bs = .non ∨ ∃ z : Str, bs = .str z ∧ Wd z) ∧ At b H D (.dK kvs) ∧ N D ∧ kvs.length ≤ most ∧
  ((∀ p ∈ kvs, ∃ z : Str, p.1 = .inr z ∧ Wd z ∧ EV b (fun a => N a ∧ a ≠ D) H r p.2) ∨ ∀ p ∈ kvs, ∃ z : Str, p.1 = .inr z ∧ Wd z ∧ VV b N H r p.2)
theorem TempAt.off {b : Addr} {N : Addr → Prop} {H H' : Hp} {r most : Nat} {v : V} (h : TempAt b N H r most v) (o : Off b H H') : TempAt b N H' r most v := by
  obtain ⟨t, bs, D, kvs, e, a, hb, aD, nD, hl, h⟩ := h
  refine ⟨t, bs, D, kvs, e, a.off o, hb, aD.off o, nD, hl, h.imp (fun h p hp => ?_) (fun h p hp => ?_)⟩
  · obtain ⟨z, e, hz, hv⟩ := h p hp
    exact ⟨z, e, hz, hv.tr (fun _ h => h) o.v⟩
  · obtain ⟨z, e, hz, hv⟩ := h p hp
    exact ⟨z, e, hz, hv.tr (fun _ h => h) o.v⟩
theorem mem_merge {p : Key × V} : ∀ {more acc : List (Key × V)}, p ∈ mergeK acc more → p ∈ acc ∨ p ∈ more
  | [], acc, h => .inl h
  | q :: r, acc, h => by
    rcases mem_merge (more := r) (acc := putK acc q.1 q.2) h with z | z
    · rcases mem_put z with y | y
      · exact .inr (by rw [y]; exact List.mem_cons_self)
      · exact .inl y
    · exact .inr (List.mem_cons_of_mem _ z)
theorem len_merge : ∀ (more acc : List (Key × V)), (mergeK acc more).length ≤ acc.length + more.length
  | [], acc => Nat.le_refl _
  | q :: r, acc => by
    have h1 := len_merge r (putK acc q.1 q.2)
    have h2 := len_put acc q.1 q.2
    have e : mergeK acc (q :: r) = mergeK (putK acc q.1 q.2) r := rfl
    rw [e, List.length_cons]
    omega
theorem put1 {k : Key} {v : V} : putK [] k v = [(k, v)] := rfl
theorem put_ne1 {k j : Key} {v x : V} (h : ¬ k = j) : putK [(k, v)] j x = [(k, v), (j, x)] := putK_new x (valV_neg h)
theorem put_ne2 {k j i : Key} {v x y : V} (h : ¬ k = i) (g : ¬ j = i) : putK [(k, v), (j, x)] i y = [(k, v), (j, x), (i, y)] := putK_new y ((valV_neg h).trans (valV_neg g))
theorem book_new {l t k : V} : mergeK [] ([(.inr "lists", l), (.inr "templates", t), (.inr "kinds", k)] : List (Key × V)) = [(.inr "lists", l), (.inr "templates", t), (.inr "kinds", k)] := by
  unfold mergeK
  simp only [List.foldl_cons, List.foldl_nil]
  rw [put1, put_ne1 (kne (by decide +kernel)), put_ne2 (kne (by decide +kernel)) (kne (by decide +kernel))]
theorem ff1 : FF (mergeK [] ([(.inr "p", .str "number")] : List (Key × V))) := .inl rfl
theorem ff2 : FF (mergeK [] ([(.inr "p", .str "number"), (.inr "t", .str "text")] : List (Key × V))) := .inr (by
  unfold mergeK
  simp only [List.foldl_cons, List.foldl_nil]
  rw [put1, put_ne1 (kne (by decide +kernel))])
/-- the book's four dicts: new, and four -/
structure Bs (b B l t k : Addr) (H : Hp) : Prop where
  nB : H B = none
  nl : H l = none
  nt : H t = none
  nk : H k = none
  bB : B ≠ b
  bl : l ≠ b
  bt : t ≠ b
  bk : k ≠ b
  Bl : B ≠ l
  Bt : B ≠ t
  Bk : B ≠ k
  lt : l ≠ t
  lk : l ≠ k
  tk : t ≠ k
theorem Bs.nb {b B l t k : Addr} {H : Hp} (s : Bs b B l t k H) {a : Addr} {o : HO} (h : H a = some o) : ¬ (a = B ∨ a = l ∨ a = t ∨ a = k) := fun z => by
  rcases z with e | e | e | e <;> subst e
  · rw [s.nB] at h; cases h
  · rw [s.nl] at h; cases h
  · rw [s.nt] at h; cases h
  · rw [s.nk] at h; cases h
/-- a book under way -/
structure Bn (b B l t k : Addr) (H : Hp) (N : Nat) (ll tt kk : List (Key × V)) (Hi : Hp) : Prop where
  off : Off b H Hi
  box : Box Hi b N
  hB : Hi B = some (.dK [(.inr "lists", .ref l), (.inr "templates", .ref t), (.inr "kinds", .ref k)])
  hl : Hi l = some (.dK ll)
  ht : Hi t = some (.dK tt)
  hk : Hi k = some (.dK kk)
  ln : ll.length ≤ 2
  ls : ∀ p ∈ ll, ∃ z : Str, p.1 = .inr z ∧ Wd z ∧ ListAt b (ers B l t k Hi) p.2
section
variable {b B l t k : Addr} {H Hi Hj : Hp} {N N' : Nat} {ll tt kk : List (Key × V)}
theorem Bn.to (s : Bs b B l t k H) (e : Bn b B l t k H N ll tt kk Hi) (o : Off b Hi Hj) (x : Box Hj b N') : Bn b B l t k H N' ll tt kk Hj :=
  ⟨e.off.trans o, x, o.mem s.bB e.hB, o.mem s.bl e.hl, o.mem s.bt e.ht, o.mem s.bk e.hk, e.ln, fun p hp => let ⟨z, e1, hz, h⟩ := e.ls p hp; ⟨z, e1, hz, h.off o.ers⟩⟩
theorem Bn.same (s : Bs b B l t k H) (e : Bn b B l t k H N ll tt kk Hi) (o : Same Hi Hj) : Bn b B l t k H N ll tt kk Hj := e.to s (fun a o' _ h => o a o' h) (e.box.same o)
theorem Bn.mono (s : Bs b B l t k H) (e : Bn b B l t k H N ll tt kk Hi) (h : N ≤ N') : Bn b B l t k H N' ll tt kk Hi := e.to s (Off.refl b Hi) (e.box.mono h)
theorem Bn.listsAt (s : Bs b B l t k H) (e : Bn b B l t k H N ll tt kk Hi) : ListsAt b Hi l ll := ⟨⟨s.bl, e.hl⟩, e.ln, fun p hp => let ⟨z, e1, hz, h⟩ := e.ls p hp; ⟨z, e1, hz, h.off ers_off⟩⟩
theorem Bn.offt (e : Bn b B l t k H N ll tt kk Hi) : OffT b Hi (ers B l t k Hi) := ers_t e.hB e.hl e.ht e.hk
theorem Bn.nn (e : Bn b B l t k H N ll tt kk Hi) {a : Addr} (h : Hi a = none) : ¬ (a = B ∨ a = l ∨ a = t ∨ a = k) := fun z => by
  rcases z with e1 | e1 | e1 | e1 <;> subst e1
  · rw [e.hB] at h; cases h
  · rw [e.hl] at h; cases h
  · rw [e.ht] at h; cases h
  · rw [e.hk] at h; cases h
/-- a list more -/
theorem Bn.putL (s : Bs b B l t k H) (e : Bn b B l t k H N ll tt kk Hi) {z : Str} {v : V} (hz : Wd z) (hn : ll.length ≤ 1) (hv : ListAt b (ers B l t k Hi) v) : Bn b B l t k H N (putK ll (.inr z) v) tt kk (upd Hi l (.dK (putK ll (.inr z) v))) := by
  refine ⟨e.off.put s.nl, e.box.new s.bl, by rw [upd_ne s.Bl]; exact e.hB, upd_same, by rw [upd_ne s.lt.symm]; exact e.ht, by rw [upd_ne s.lk.symm]; exact e.hk, Nat.le_trans (len_put _ _ _) (by omega), fun p hp => ?_⟩
  rw [ers_put (.inr (.inl rfl))]
  rcases mem_put hp with y | y
  · rw [y]
    exact ⟨z, rfl, hz, hv⟩
  · exact e.ls p y
/-- a template more, and its kinds -/
theorem Bn.putT (s : Bs b B l t k H) (e : Bn b B l t k H N ll tt kk Hi) (tt' kk' : List (Key × V)) : Bn b B l t k H N ll tt' kk' (upd (upd Hi t (.dK tt')) k (.dK kk')) := by
  refine ⟨(e.off.put s.nt).put s.nk, (e.box.new s.bt).new s.bk, by rw [upd_ne s.Bk, upd_ne s.Bt]; exact e.hB, by rw [upd_ne s.lk, upd_ne s.lt]; exact e.hl, by rw [upd_ne s.tk]; exact upd_same, upd_same, e.ln, fun p hp => ?_⟩
  rw [ers_put (.inr (.inr (.inr rfl))), ers_put (.inr (.inr (.inl rfl)))]
  exact e.ls p hp
end
end M02

set_option Elab.async false
set_option linter.all false
set_option maxRecDepth 100000
set_option maxHeartbeats 4000000
/-! the book: its templates and their kinds -/
namespace M02
open PySem PySem.Spec PyProof.Rows L2 GL GT
theorem KindOk.chg {b : Addr} {H : Hp} {kk kk' : List (Key × V)} {rk rk' : Addr → Nat} {r r' : Nat} {p : Key × V} (h : KindOk b H kk rk r p) (hx : ∀ nm d, valV kk (.inr nm) = some (.ref d) → rk d < r → valV kk' (.inr nm) = some (.ref d) ∧ rk' d < r') : KindOk b H kk' rk' r' p := by
  obtain ⟨z, e, hz, h⟩ := h
  refine ⟨z, e, hz, h.imp id ?_⟩
  rintro ⟨t, w, nm, d, e1, a, hw, hn, hv, hr⟩
  obtain ⟨h1, h2⟩ := hx nm d hv hr
  exact ⟨t, w, nm, d, e1, a, hw, hn, h1, h2⟩
/-- templates and kinds after i names -/
structure TI (b B l t k : Addr) (xs : List V) (i : Nat) (tt kk : List (Key × V)) (rk : Addr → Nat) (m : Nat) (Hi : Hp) : Prop where
  mi : m ≤ i
  ti : tt.length ≤ i
  ki : kk.length ≤ i
  bk : BookK b (ers B l t k Hi) kk rk m
  ts : ∀ p ∈ tt, ∃ (z : Str) (d : Addr), p.1 = .inr z ∧ Wd z ∧ valV kk (.inr z) = some (.ref d) ∧ rk d < m ∧ TempAt b (NB B l t k) (ers B l t k Hi) 2 4 p.2
  fr : ∀ nm d, valV kk (.inr nm) = some (.ref d) → rk d < m ∧ ∃ j, j < i ∧ xs[j]? = some (.str nm)
section
variable {b B l t k : Addr} {xs : List V} {i m : Nat} {tt kk : List (Key × V)} {rk : Addr → Nat} {Hi Hj : Hp}
theorem TI.off (e : TI b B l t k xs i tt kk rk m Hi) (o : Off b Hi Hj) : TI b B l t k xs i tt kk rk m Hj :=
  ⟨e.mi, e.ti, e.ki, e.bk.off o.ers, fun p hp => let ⟨z, d, e1, hz, hv, hr, h⟩ := e.ts p hp; ⟨z, d, e1, hz, hv, hr, h.off o.ers⟩, e.fr⟩
theorem TI.ne (e : TI b B l t k xs i tt kk rk m Hi) : ∀ nm d, valV kk (.inr nm) = some (.ref d) → rk d < m → d ≠ B ∧ d ≠ k := fun nm d hv hr => by
  obtain ⟨fs, a, _⟩ := e.bk nm d hv hr
  obtain ⟨n4, _⟩ := ers_some a.2
  exact ⟨fun z => n4 (.inl z), fun z => n4 (.inr (.inr (.inr z)))⟩
theorem TI.put (e : TI b B l t k xs i tt kk rk m Hi) {nm : Str} {d0 : Addr} {v : V} {rk' : Addr → Nat} {m' : Nat} (hx : xs[i]? = some (.str nm)) (nd : ∀ (i j : Nat) (nm : Str), xs[i]? = some (V.str nm) → xs[j]? = some (V.str nm) → i = j) (hw : Wd nm) (h1 : m ≤ m') (h2 : m' ≤ i + 1) (h3 : rk' d0 < m')
    (h4 : ∃ fs : List (Key × V), At b (ers B l t k Hi) d0 (.dK fs) ∧ fs.length ≤ 4 ∧ ∀ p ∈ fs, KindOk b (ers B l t k Hi) kk rk (rk' d0) p) (h5 : ∀ nm d, valV kk (.inr nm) = some (.ref d) → rk' d = rk d) (hv : TempAt b (NB B l t k) (ers B l t k Hi) 2 4 v)
    (hE : ers B l t k Hj = ers B l t k Hi) : TI b B l t k xs (i + 1) (putK tt (.inr nm) v) (putK kk (.inr nm) (.ref d0)) rk' m' Hj := by
  have new : ∀ nm' d, valV kk (.inr nm') = some (.ref d) → nm' ≠ nm := fun nm' d hv z => by
    subst z
    obtain ⟨_, j, hj, hxj⟩ := e.fr nm' d hv
    have := nd i j nm' hx hxj
    omega
  have old : ∀ nm' d, valV kk (.inr nm') = some (.ref d) → valV (putK kk (.inr nm) (.ref d0)) (.inr nm') = some (.ref d) := fun nm' d hv => by
    rw [valV_put, if_neg (kne (new nm' d hv))]
    exact hv
  have chg : ∀ {r : Nat} {p : Key × V}, KindOk b (ers B l t k Hi) kk rk r p → KindOk b (ers B l t k Hi) (putK kk (.inr nm) (.ref d0)) rk' r p := fun h => h.chg fun nm' d hv hr => ⟨old nm' d hv, by rw [h5 nm' d hv]; exact hr⟩
  refine ⟨h2, Nat.le_trans (len_put _ _ _) (Nat.succ_le_succ e.ti), Nat.le_trans (len_put _ _ _) (Nat.succ_le_succ e.ki), fun nm' d' ev hr => ?_, fun p hp => ?_, fun nm' d' ev => ?_⟩
  · rw [hE]
    rw [valV_put] at ev
    by_cases z : (Sum.inr nm' : Key) = .inr nm
    · rw [if_pos z] at ev
      cases ev
      obtain ⟨fs, a, hl, hk⟩ := h4
      exact ⟨fs, a, hl, fun p hp => chg (hk p hp)⟩
    · rw [if_neg z] at ev
      obtain ⟨fs, a, hl, hk⟩ := e.bk nm' d' ev (e.fr nm' d' ev).1
      exact ⟨fs, a, hl, fun p hp => by rw [h5 nm' d' ev]; exact chg (hk p hp)⟩
  · rw [hE]
    rcases mem_put hp with y | y
    · rw [y]
      exact ⟨nm, d0, rfl, hw, by rw [valV_put, if_pos rfl], h3, hv⟩
    · obtain ⟨z, d, e1, hz, hv', hr, ht⟩ := e.ts p y
      exact ⟨z, d, e1, hz, old z d hv', by rw [h5 z d hv']; omega, ht⟩
  · rw [valV_put] at ev
    by_cases z : (Sum.inr nm' : Key) = .inr nm
    · rw [if_pos z] at ev
      cases ev
      injection z with z
      subst z
      exact ⟨h3, i, by omega, hx⟩
    · rw [if_neg z] at ev
      obtain ⟨g1, j, hj, hxj⟩ := e.fr nm' d' ev
      exact ⟨by rw [h5 nm' d' ev]; omega, j, by omega, hxj⟩
end
end M02

set_option Elab.async false
set_option linter.all false
set_option maxRecDepth 100000
set_option maxHeartbeats 4000000
/-! the book: _law_book -/
namespace M02
open PySem PySem.Spec PyProof.Rows L2 GL GT
theorem scB8 : FnScope ["_law_box_here", "_law_most", "_law_book_here", "_law_name", "_law_fields", "_law_rows", "_law_turn", "_law_others", "_law_base", "_law_body_here", "_law_entries_here", "_law_kinds", "_law_field", "_law_kind"] ["_law_box_here", "_law_most"] (defScope sBook) := ⟨rfl, rfl, rfl, by decide +kernel, rfl, by decide +kernel, by decide +kernel⟩
theorem RowAt.go {b B l t k : Addr} {Hj Hw : Hp} {r : V} (h : RowAt b (ers B l t k Hj) r) (x : ∀ a ks, a ≠ b → Hj a = some (.dK ks) → Hw a = some (.dK ks)) : RowAt b (ers B l t k Hw) r := by
  obtain ⟨rd, ks, e, a, n, h⟩ := h
  obtain ⟨n4, h4⟩ := ers_some a.2
  exact ⟨rd, ks, e, ⟨a.1, ers_mem (x rd ks a.1 h4) n4⟩, n, h⟩
theorem paired_imp {α β : Type} {F G : α → β → Prop} (h : ∀ a b, F a b → G a b) : ∀ {xs : List α} {ys : List β}, Paired F xs ys → Paired G xs ys
  | _, _, .nil => .nil
  | _, _, .cons a t => .cons (h _ _ a) (paired_imp h t)
/-- what a book is -/
def BookR (b : Addr) (H : Hp) (B : Addr) : Prop := ∃ (l t k : Addr) (ll tt : List (Key × V)), BookB b H B l t k ∧ B ≠ l ∧ B ≠ t ∧ l ≠ t ∧ ListsAt b H l ll ∧ (∀ p ∈ ll, ListAt b (ers B l t k H) p.2) ∧ At b H t (.dK tt) ∧ tt.length ≤ 4 ∧ (∃ v, valV tt (.inr "") = some v ∧ TempAt b (NB B l t k) (ers B l t k H) 3 6 v) ∧
  ∀ p ∈ tt, ∃ z : Str, p.1 = .inr z ∧ ((z = "" ∧ TempAt b (NB B l t k) (ers B l t k H) 3 6 p.2) ∨ (Wd z ∧ TempAt b (NB B l t k) (ers B l t k H) 2 4 p.2))
section
variable {P : Program} {w : World} {K : PySem.W.Frag} {mg : Str → Option Value} {base : Heap}
def spBook : Sp := fun vs H Q _ => ∃ (b : Addr) (n : Nat), vs = [.ref b, .int 6] ∧ Box H b n ∧ n + 100000 < 880000 ∧ ∀ (B : Addr) (H' : Hp), BookR b H' B → Off b H H' → Box H' b (n + 100000) → Q (.ref B) H'
theorem ok_book {f : Addr} {fd : FuncData} (F : Fun K "_law_book" "_law_book" sBook f fd) (T : Bl K mg) (d_take : DnG P w K mg base "_law_take" 1 ["_law_box_here", "_law_many"] spTake) (d_of : DnG P w K mg base "_law_of" 2 ["_law_box_here", "_law_some"] OfW)
    (d_plain : DnG P w K mg base "_law_plain" 3 ["_law_box_here", "_law_kind"] spPlain) (d_body : DnG P w K mg base "_law_body" 8 ["_law_box_here", "_law_book_here", "_law_name", "_law_some", "_law_is_own"] (Up spBody)) (d_entries : DnG P w K mg base "_law_entries" 10 ["_law_box_here", "_law_book_here", "_law_most"] spEntries) :
    FnG P w K mg base CX0 11 f fd ["_law_box_here", "_law_most"] spBook := by
  refine okG0 F scB8 (fun vs H Q E h => ?_) (fun cdv A outer s H vs Q E hr hG h => ?_)
  · obtain ⟨_, _, rfl, _⟩ := h
    rfl
  · obtain ⟨b, n, rfl, hB, hn, q⟩ := h
    refine ⟨_, (pss_cons (ps_set (i := 2) scB8.nd rfl (Or.inl rfl) (pe_disp (pps_cons pe_str pe_dnewK (pps_cons pe_str pe_dnewK (pps_cons pe_str pe_dnewK pps_nil))) (by rfl) (by rfl) (fun z => by cases z) (by decide)))
      (pss_cons (ps_for PassesOwn.never rfl (pi_list (pe_slice sl_list (pe_lst (pa_cons pe_str (pa_cons pe_str pa_nil))) po_none (po_some (pe_callG d_take.ok (hr.mono (by omega)) hG (by rfl) d_take.g d_take.kp d_take.b .nil pass0 (pa_cons (pv 0) (pa_cons pe_int pa_nil)))))) (pg_name (i := 3) scB8.nd rfl (Or.inl rfl))
        (pss_cons (ps_set (i := 4) scB8.nd rfl (Or.inl rfl) (pe_callTy (call_dictP rfl) (by rfl) T.dict (by decide +kernel) (pa_cons (pe_slice sl_list (pe_lst (pa_cons (pe_tup (pa_cons pe_str (pa_cons pe_str pa_nil))) (pa_cons (pe_tup (pa_cons pe_str (pa_cons pe_str pa_nil))) pa_nil))) po_none (po_some (pe_op op_add pe_int (pe_callG d_take.ok (hr.mono (by omega)) hG (by rfl) d_take.g d_take.kp d_take.b .nil pass0 (pa_cons (pv 0) (pa_cons pe_int pa_nil)))))) pa_nil)))
        (pss_cons (ps_set (i := 5) scB8.nd rfl (Or.inl rfl) (pe_lst pa_nil))
        (pss_cons (ps_for PassesOwn.never rfl (pi_range1 (by rfl) T.range (pa_cons (pe_callG d_take.ok (hr.mono (by omega)) hG (by rfl) d_take.g d_take.kp d_take.b .nil pass0 (pa_cons (pv 0) (pa_cons pe_int pa_nil))) pa_nil)) (pg_name (i := 6) scB8.nd rfl (Or.inl rfl))
          (pss_one (ps_expr (pe_bm PySem.F.plainAttrs_list PySem.F.slot_list_append PySem.F.type_list_append mt_append (pv 5) (pa_cons (pe_callTy (call_dictP rfl) (by rfl) T.dict (by decide +kernel) (pa_cons (pe_lock (pe_lc (own := [("_law_field", 12), ("_law_kind", 13)]) (g := gTup K 2 (gCons (gName 12) (gCons (gName 13) gNil))) (by rfl) scB8.nd (pi_items (pv 4)) (blkOk_by (own := [("_law_field", 12), ("_law_kind", 13)]) (N := ["_law_box_here", "_law_most", "_law_book_here", "_law_name", "_law_fields", "_law_rows", "_law_turn", "_law_others", "_law_base", "_law_body_here", "_law_entries_here", "_law_kinds", "_law_field", "_law_kind"]) (sc := defScope sBook) (by decide +kernel)) (fun _ _ _ _ _ => (pg_tup rfl (pgs_cons (pg_name (i := 12) scB8.nd rfl (Or.inl rfl)) (pgs_cons (pg_name (i := 13) scB8.nd rfl (Or.inl rfl)) pgs_nil)))) (fun _ _ _ _ _ => pts_nil) (fun _ _ _ _ _ => (pe_tup (pa_cons (pv 12) (pa_cons (pe_ix (r := rIxT K) ix_tup (pe_callG d_plain.ok (hr.mono (by omega)) hG (by rfl) d_plain.g d_plain.kp d_plain.b .nil pass0 (pa_cons (pv 0) (pa_cons (pv 13) pa_nil))) pe_int (fun _ _ => rfl)) pa_nil)))))) pa_nil)) pa_nil)))))
        (pss_one (ps_dput (u1 hr) (pe_dget (u1 hr) (pv 2) pe_str (fun _ _ => rfl)) (pv 3) (pe_tup (pa_cons (pv 4) (pa_cons (pv 5) pa_nil))) rfl))))))
      (pss_cons (ps_for PassesOwn.never rfl (pi_list (pe_slice sl_list (pe_lst (pa_cons pe_str (pa_cons pe_str (pa_cons pe_str pa_nil)))) po_none (po_some (pe_callG d_take.ok (hr.mono (by omega)) hG (by rfl) d_take.g d_take.kp d_take.b .nil pass0 (pa_cons (pv 0) (pa_cons pe_int pa_nil)))))) (pg_name (i := 3) scB8.nd rfl (Or.inl rfl))
        (pss_cons (ps_set (i := 7) scB8.nd rfl (Or.inl rfl) (pe_callB (call_sortedD rfl) (by rfl) T.sorted (by decide +kernel) (pa_cons (pe_dget (u1 hr) (pv 2) pe_str (fun _ _ => rfl)) pa_nil)))
        (pss_one (ps_if (PW.pt (pw_and (pt_cmpR (op_neE hr.units0) (pv 7) (pe_lst pa_nil) (nomark _)) (pw_and1 (pt_cmpR op_eq (pe_callG d_take.ok (hr.mono (by omega)) hG (by rfl) d_take.g d_take.kp d_take.b .nil pass0 (pa_cons (pv 0) (pa_cons pe_int pa_nil))) pe_int (nomark _)))))
          (pss_cons (ps_set (i := 8) scB8.nd rfl (Or.inl rfl) (pe_callG d_of.ok (hr.mono (by omega)) hG (by rfl) d_of.g d_of.kp d_of.b .nil pass0 (pa_cons (pv 0) (pa_cons (pv 7) pa_nil))))
          (pss_cons (ps_set (i := 9) scB8.nd rfl (Or.inl rfl) (pe_callG d_body.ok (hr.mono (by omega)) hG (by rfl) d_body.g d_body.kp d_body.b .nil pass0 (pa_cons (pv 0) (pa_cons (pv 2) (pa_cons (pv 8) (pa_cons (pe_lst pa_nil) (pa_cons pe_bl pa_nil)))))))
          (pss_one (ps_asg (pe_tup (pa_cons (pe_tup (pa_cons (pv 8) (pa_cons (pv 9) pa_nil))) (pa_cons (pe_dget (u1 hr) (pe_dget (u1 hr) (pv 2) pe_str (fun _ _ => rfl)) (pv 8) (fun _ _ => rfl)) pa_nil))) (pg_tup rfl (pgs_cons (pg_sub (pe_dget (u1 hr) (pv 2) pe_str (fun _ _ => rfl)) (pv 3) (set_dict (u1 hr))) (pgs_cons (pg_sub (pe_dget (u1 hr) (pv 2) pe_str (fun _ _ => rfl)) (pv 3) (set_dict (u1 hr))) pgs_nil)))))))
          (pss_cons (ps_asg (pe_callG d_entries.ok (hr.mono (by omega)) hG (by rfl) d_entries.g d_entries.kp d_entries.b .nil pass0 (pa_cons (pv 0) (pa_cons (pv 2) (pa_cons pe_int pa_nil)))) (pg_tup rfl (pgs_cons (pg_name (i := 10) scB8.nd rfl (Or.inl rfl)) (pgs_cons (pg_name (i := 11) scB8.nd rfl (Or.inl rfl)) pgs_nil))))
          (pss_one (ps_asg (pe_tup (pa_cons (pe_tup (pa_cons pe_non (pa_cons (pv 10) pa_nil))) (pa_cons (pv 11) pa_nil))) (pg_tup rfl (pgs_cons (pg_sub (pe_dget (u1 hr) (pv 2) pe_str (fun _ _ => rfl)) (pv 3) (set_dict (u1 hr))) (pgs_cons (pg_sub (pe_dget (u1 hr) (pv 2) pe_str (fun _ _ => rfl)) (pv 3) (set_dict (u1 hr))) pgs_nil))))))))))
      (pss_cons (ps_asg (pe_callG d_entries.ok (hr.mono (by omega)) hG (by rfl) d_entries.g d_entries.kp d_entries.b .nil pass0 (pa_cons (pv 0) (pa_cons (pv 2) (pa_cons (pv 1) pa_nil)))) (pg_tup rfl (pgs_cons (pg_name (i := 10) scB8.nd rfl (Or.inl rfl)) (pgs_cons (pg_name (i := 11) scB8.nd rfl (Or.inl rfl)) pgs_nil))))
      (pss_cons (ps_asg (pe_tup (pa_cons (pe_tup (pa_cons pe_non (pa_cons (pv 10) pa_nil))) (pa_cons (pv 11) pa_nil))) (pg_tup rfl (pgs_cons (pg_sub (pe_dget (u1 hr) (pv 2) pe_str (fun _ _ => rfl)) pe_str (set_dict (u1 hr))) (pgs_cons (pg_sub (pe_dget (u1 hr) (pv 2) pe_str (fun _ _ => rfl)) pe_str (set_dict (u1 hr))) pgs_nil))))
      (pss_one (ps_ret (pv 2)))))))), ?_⟩
    refine fun B nB => fun lD nl => fun tD nt => fun kD nk => ?_
    have bB := hB.ne nB
    have X1 := hB.new (u := .dK []) bB
    have bl := X1.ne nl
    have X2 := X1.new (u := .dK []) bl
    have bt := X2.ne nt
    have X3 := X2.new (u := .dK []) bt
    have bk := X3.ne nk
    have X4 := (X3.new (u := .dK []) bk).new (u := .dK [(.inr "lists", .ref lD), (.inr "templates", .ref tD), (.inr "kinds", .ref kD)]) bB
    have Bl : B ≠ lD := ne_of_none upd_same nl
    have Bt : B ≠ tD := ne_of_none (same_new nl _ _ upd_same) nt
    have Bk : B ≠ kD := ne_of_none (same_new nt _ _ (same_new nl _ _ upd_same)) nk
    have lt : lD ≠ tD := ne_of_none upd_same nt
    have lk : lD ≠ kD := ne_of_none (same_new nt _ _ upd_same) nk
    have tk : tD ≠ kD := ne_of_none upd_same nk
    have o2 : Off b H (upd (upd H B (.dK [])) lD (.dK [])) := (Off.new nB).trans (Off.new nl)
    have o3 := o2.trans (Off.new (u := .dK []) nt)
    have s : Bs b B lD tD kD H := ⟨nB, (Off.new (b := b) nB).none bl nl, o2.none bt nt, o3.none bk nk, bB, bl, bt, bk, Bl, Bt, Bk, lt, lk, tk⟩
    refine ⟨by rw [upd_ne Bk, upd_ne Bt, upd_ne Bl]; exact upd_same, [(.inr "lists", .ref lD), (.inr "templates", .ref tD), (.inr "kinds", .ref kD)], rfl, by show 3 ≤ 15; decide, ?_⟩
    rw [book_new]
    have e0 : Bn b B lD tD kD H n [] [] [] (upd (upd (upd (upd (upd H B (.dK [])) lD (.dK [])) tD (.dK [])) kD (.dK [])) B (.dK [(.inr "lists", .ref lD), (.inr "templates", .ref tD), (.inr "kinds", .ref kD)])) := by
      refine ⟨(o3.trans (Off.new nk)).put nB, X4, upd_same, ?_, ?_, ?_, by decide, fun _ h => by cases h⟩
      · rw [upd_ne Bl.symm, upd_ne lk, upd_ne lt]; exact upd_same
      · rw [upd_ne Bt.symm, upd_ne tk]; exact upd_same
      · rw [upd_ne Bk.symm]; exact upd_same
    clear X1 X2 X3 X4 o2 o3
    generalize upd (upd (upd (upd (upd H B (.dK [])) lD (.dK [])) tD (.dK [])) kD (.dK [])) B (.dK [(.inr "lists", .ref lD), (.inr "templates", .ref tD), (.inr "kinds", .ref kD)]) = H1 at e0
    -- the lists
    refine ⟨by show 2 ≤ sizeLine; decide, fun p np => ⟨.ref b, rfl, b, 3, _, rfl, e0.box.new (e0.box.ne np), by omega, by decide, by decide, fun k u k0 k1 B2 => ⟨k, rfl, p, [.str "goods", .str "people"], rfl, SqL.of (Off.box p _ (e0.box.ne np) upd_same), fun L0 nL => ?_⟩⟩⟩
    have e1 := e0.to s ((Off.new np).trans Off.box) B2
    have L0b := B2.ne nL
    have e2 := e1.to s (Off.new (u := .lst (cutV [.str "goods", .str "people"] none (some k))) nL) (e1.box.new L0b)
    have hL0 : (upd (upd (upd H1 p (.lst [.str "goods", .str "people"])) b u) L0 (.lst (cutV [.str "goods", .str "people"] none (some k)))) L0 = _ := upd_same
    generalize upd (upd (upd H1 p (.lst [.str "goods", .str "people"])) b u) L0 (.lst (cutV [.str "goods", .str "people"] none (some k))) = H2 at e2 hL0
    have hxs : ∀ x ∈ cutV [.str "goods", .str "people"] none (some k), ∃ z : Str, x = .str z ∧ Wd z := fun x hx => by
      have := mem_cut hx
      simp only [List.mem_cons, List.not_mem_nil, or_false] at this
      rcases this with e | e <;> exact ⟨_, e, wd_of (by decide +kernel)⟩
    have hxl : (cutV [.str "goods", .str "people"] none (some k)).length ≤ 2 := cutV_length _ _ _
    generalize cutV [.str "goods", .str "people"] none (some k) = xs at hxs hxl hL0
    clear e1 e0 B2 np nL
    refine ⟨L0, rfl, ⟨_, SqL.of hL0⟩, ?_⟩
    refine for_list (K := K) (a := L0) (xs := xs) (fun i σ Hi => ∃ (y3 y4 y5 y6 y7 y8 y9 y10 y11 y12 y13 : Option V) (ll : List (Key × V)), σ = [some (.ref b), some (.int 6), some (.ref B), y3, y4, y5, y6, y7, y8, y9, y10, y11, y12, y13] ∧ Bn b B lD tD kD H (n + 1 + i * 20) ll [] [] Hi ∧ ll.length ≤ i ∧ Hi L0 = some (.lst xs))
      ⟨none, none, none, none, none, none, none, none, none, none, none, [], rfl, e2.mono s (by omega), Nat.le_refl _, hL0⟩ (fun i σ Hi _ hP => by obtain ⟨_, _, _, _, _, _, _, _, _, _, _, _, _, _, _, h⟩ := hP; exact SqL.of h) (fun i x σ Hi hx hP => ?_) (fun σ Hi hP => ?_)
    · obtain ⟨y3, y4, y5, y6, y7, y8, y9, y10, y11, y12, y13, ll, rfl, e, hll, hL⟩ := hP
      have hi : i < xs.length := (List.getElem?_eq_some_iff.mp hx).1
      obtain ⟨z, rfl, hz⟩ := hxs x (List.mem_of_getElem? hx)
      -- the fields
      refine ⟨by show 2 ≤ sizeLine; decide, fun t1 nt1 => ⟨by show 2 ≤ sizeLine; decide, fun t2 nt2 => ⟨by show 2 ≤ sizeLine; decide, fun pl npl => ?_⟩⟩⟩
      have b1 := e.box.ne nt1
      have Y1 := e.box.new (u := .tup [.str "p", .str "number"]) b1
      have b2 := Y1.ne nt2
      have Y2 := Y1.new (u := .tup [.str "t", .str "text"]) b2
      have b3 := Y2.ne npl
      have Y3 := Y2.new (u := .lst [.ref t1, .ref t2]) b3
      have o123 := ((Off.new (b := b) (u := .tup [.str "p", .str "number"]) nt1).trans (Off.new (u := .tup [.str "t", .str "text"]) nt2)).trans (Off.new (u := .lst [.ref t1, .ref t2]) npl)
      have h1 := ((Off.new (b := b) (u := .tup [.str "t", .str "text"]) nt2).trans (Off.new (u := .lst [.ref t1, .ref t2]) npl)).mem b1 (upd_same (H := Hi) (a := t1) (o := .tup [.str "p", .str "number"]))
      have h2 := (Off.new (b := b) (u := .lst [.ref t1, .ref t2]) npl).mem b2 upd_same
      have h3 : (upd (upd (upd Hi t1 (.tup [.str "p", .str "number"])) t2 (.tup [.str "t", .str "text"])) pl (.lst [.ref t1, .ref t2])) pl = _ := upd_same
      generalize upd (upd (upd Hi t1 (.tup [.str "p", .str "number"])) t2 (.tup [.str "t", .str "text"])) pl (.lst [.ref t1, .ref t2]) = H3 at Y3 o123 h1 h2 h3
      refine ⟨.ref b, rfl, b, 2, _, rfl, Y3, by omega, by decide, by decide, fun k2 u2 k20 k21 Y4 => ⟨1, k2, rfl, rfl, 1 + k2, rfl, pl, _, rfl, SqL.of (Off.box pl _ b3 h3), fun pc npc => ?_⟩⟩
      have o4 : Off b H3 (upd H3 b u2) := Off.box
      have hL4 := (o123.trans o4).mem L0b hL
      have e4 := e.to s (o123.trans o4) Y4
      have h14 := o4.mem b1 h1
      have h24 := o4.mem b2 h2
      generalize upd H3 b u2 = H4 at Y4 o4 hL4 e4 h14 h24 npc
      have hcut : ∃ (ps : List Addr) (kvs : List (Key × V)), cutV [.ref t1, .ref t2] none (some (1 + k2)) = ps.map V.ref ∧ (∀ Hx : Hp, Hx t1 = some (.tup [.str "p", .str "number"]) → Hx t2 = some (.tup [.str "t", .str "text"]) → Paired (fun p kv => SqT K Hx p [kV kv.1, kv.2]) ps kvs) ∧ FF (mergeK [] kvs) := by
        have : k2 = 0 ∨ k2 = 1 := by omega
        rcases this with rfl | rfl
        · exact ⟨[t1], [(.inr "p", .str "number")], rfl, fun Hx h _ => .cons (SqT.of h) .nil, ff1⟩
        · exact ⟨[t1, t2], [(.inr "p", .str "number"), (.inr "t", .str "text")], rfl, fun Hx h h' => .cons (SqT.of h) (.cons (SqT.of h') .nil), ff2⟩
      obtain ⟨ps, kvs, hc1, hc2, hFF⟩ := hcut
      rw [hc1]
      have on : Off b H4 (upd H4 pc (.lst (ps.map V.ref))) := Off.new npc
      refine ⟨pc, ps, kvs, rfl, SqL.of upd_same, hc2 _ (on.mem b1 h14) (on.mem b2 h24), fun fd nfd => ?_⟩
      have Y5 := Y4.new (u := .lst (ps.map V.ref)) (Y4.ne npc)
      have fb := Y5.ne nfd
      have e5 := (e4.to s on Y5)
      have hL5 := on.mem L0b hL4
      generalize upd H4 pc (.lst (ps.map V.ref)) = H5 at Y5 e5 hL5 nfd
      have fn := e5.nn nfd
      generalize hfs : mergeK [] kvs = fs at hFF
      have on5 : Off b H5 (upd H5 fd (.dK fs)) := Off.new nfd
      have e6 := e5.to s on5 (Y5.new fb)
      have hL6 := on5.mem L0b hL5
      have hf6 : (upd H5 fd (.dK fs)) fd = some (.dK fs) := upd_same
      generalize upd H5 fd (.dK fs) = H6 at e6 hL6 hf6
      obtain ⟨hfl, hf0, hfm⟩ := hFF.mem
      -- the rows
      refine ⟨Nat.zero_le _, fun rl nrl => ⟨.ref b, rfl, b, 4, _, rfl, e6.box.new (e6.box.ne nrl), by omega, by decide, by decide, fun k7 u7 k70 k71 Y7 => ?_⟩⟩
      have rb := e6.box.ne nrl
      obtain ⟨k8, rfl⟩ := Int.eq_ofNat_of_zero_le k70
      have o7 : Off b H6 (upd (upd H6 rl (.lst [])) b u7) := (Off.new nrl).trans Off.box
      have hr7 : (upd (upd H6 rl (.lst [])) b u7) rl = some (.lst []) := Off.box rl _ rb upd_same
      generalize upd (upd H6 rl (.lst [])) b u7 = H7 at Y7 o7 hr7
      refine ⟨k8, rfl, by omega, by omega, for_range (lo := 0) (n := k8) (fun j σ Hj => ∃ (y6' y12' y13' : Option V) (rs : List V), σ = [some (.ref b), some (.int 6), some (.ref B), some (.str z), some (.ref fd), some (.ref rl), y6', y7, y8, y9, y10, y11, y12', y13'] ∧ Off b H6 Hj ∧ Box Hj b (n + 1 + i * 20 + 1 + 1 + 2 * j) ∧ Hj rl = some (.lst rs) ∧ rs.length ≤ j ∧ ∀ r ∈ rs, RowAt b (ers B lD tD kD Hj) r)
        ⟨_, _, _, [], rfl, o7, Y7.mono (by omega), hr7, Nat.le_refl _, fun _ h => by (cases h)⟩ (fun j σ Hj hj hP => ?_) (fun σ Hj hP => ?_)⟩
      · obtain ⟨y6', y12', y13', rs, rfl, oj, Bj, hrj, hrl, hrs⟩ := hP
        have hfj := oj.mem fb hf6
        refine ⟨.ref rl, rfl, .inl ⟨rfl, _, SqL.of hrj⟩, ?_⟩
        refine ⟨fd, .dK fs, hfj, trivial, fun od => ⟨.ref fd, rfl, fd, od, fs, rfl, upd_same, fun D9 nD9 => ?_⟩⟩
        have s0 : ∀ a o, a ≠ fd → Hj a = some o → (upd Hj fd (.frz od (.dK fs))) a = some o := fun a o na h => by rw [upd_ne na]; exact h
        have hff : (upd Hj fd (.frz od (.dK fs))) fd = some (.frz od (.dK fs)) := upd_same
        have Bf := Bj.new (u := .frz od (.dK fs)) fb
        generalize upd Hj fd (.frz od (.dK fs)) = Hf at s0 hff Bf nD9
        have D9b := Bf.ne nD9
        refine lc_it (walk_items (kvs := fs)) (fun i' Hc => Off b Hf Hc ∧ Box Hc b (n + 1 + i * 20 + 1 + 1 + 2 * j + i') ∧ ∃ (ps : List Addr) (kvs : List (Key × V)), Hc D9 = some (.lst (ps.map V.ref)) ∧ ps.length ≤ i' ∧ kvs.length ≤ i' ∧ Paired (fun p kv => At b Hc p (.tup [kV kv.1, kv.2])) ps kvs ∧ ∀ p ∈ kvs, ∃ z : Str, p.1 = .inr z ∧ Wd z ∧ Lit p.2)
          ⟨Off.new nD9, Bf.new D9b, [], [], upd_same, Nat.le_refl _, Nat.le_refl _, .nil, fun _ h => by (cases h)⟩ (fun i' Hc _ hP => hP.1.mem fb hff) (fun i' x Hc Hc' hi' hP hY => ?_) (fun Hc hP => ?_)
        · obtain ⟨oc, Bc, ps', kvs', hD, hpl, hkl, hpk, hkv⟩ := hP
          obtain ⟨T2, x1, x2, rfl, nT2, rfl, e1, e2⟩ := hY
          obtain ⟨⟨k2', v2⟩, hkv2⟩ : ∃ p, fs[i']? = some p := ⟨_, List.getElem?_eq_getElem hi'⟩
          have e1 : (fs[i']?.map fun kv => kV kv.1) = some x1 := e1
          have e2 : (fs[i']?.map Prod.snd) = some x2 := e2
          rw [hkv2] at e1 e2
          cases e1
          cases e2
          obtain ⟨z2, kd2, ez2, hzw2, hkd2⟩ := hfm _ (List.mem_of_getElem? hkv2)
          cases ez2
          have oT : Off b Hc (upd Hc T2 (.tup [kV (.inr z2), .str kd2])) := Off.new nT2
          have BT := Bc.new (u := .tup [kV (.inr z2), .str kd2]) (Bc.ne nT2)
          refine ⟨T2, _, rfl, SqT.of upd_same, rfl, _, _, rfl, _, _, rfl, rfl, rfl, ?_⟩
          generalize upd Hc T2 (.tup [kV (.inr z2), .str kd2]) = He at oT BT
          refine ⟨.str z2, rfl, .ref b, rfl, .str kd2, rfl, b, _, kd2, rfl, BT, by omega, fun t x Hx at' hlit _ ox Bx => ⟨t, _, 1, _, rfl, rfl, SqT.of at'.2, rfl, by show 2 ≤ sizeLine; decide, fun tp ntp => ?_⟩⟩
          have on : Off b Hx (upd Hx tp (.tup [.str z2, x])) := Off.new ntp
          have atp : At b (upd Hx tp (.tup [.str z2, x])) tp (.tup [.str z2, x]) := .new Bx ntp
          have Bp := Bx.new (u := .tup [.str z2, x]) (Bx.ne ntp)
          have oc2 := ((oT.trans ox).trans on)
          generalize upd Hx tp (.tup [.str z2, x]) = Hy at on atp Bp oc2
          have hDy := oc2.mem D9b hD
          have aL : ∀ {a : Addr} {zs : List V}, At b Hy a (.tup zs) → At b (upd Hy D9 (.lst (ps'.map V.ref ++ [.ref tp]))) a (.tup zs) := fun {a zs} h => ⟨h.1, by rw [upd_ne (fun e => by have := h.2; rw [e, hDy] at this; cases this)]; exact h.2⟩
          have hP2 : Paired (fun p (kv : Key × V) => At b (upd Hy D9 (.lst (ps'.map V.ref ++ [.ref tp]))) p (.tup [kV kv.1, kv.2])) (ps' ++ [tp]) (kvs' ++ [(.inr z2, x)]) := Paired.snoc (paired_imp (fun p kv h => aL (At.off h oc2)) hpk) (aL atp)
          refine ⟨_, hDy, Nat.lt_of_le_of_lt (by rw [List.length_map]; omega : (ps'.map V.ref).length ≤ 1000) (by decide), (oc.trans oc2).put nD9, (Bp.new D9b).mono (by omega), ps' ++ [tp], kvs' ++ [(.inr z2, x)], by rw [List.map_append]; exact upd_same, by simp; omega, by simp; omega, hP2, fun p hp => ?_⟩
          rcases List.mem_append.mp hp with y | y
          · exact hkv p y
          · rw [List.mem_singleton.mp y]
            exact ⟨z2, rfl, hzw2, hlit⟩
        · obtain ⟨oc, Bc, ps', kvs', hD, hpl, hkl, hpk, hkv⟩ := hP
          have hdc := oc.mem fb hff
          have ou : Off b Hj (upd Hc fd (.dK fs)) := fun a o na h => by
            by_cases e : a = fd
            · subst e
              rw [hfj] at h
              cases h
              exact upd_same
            · rw [upd_ne e]
              exact oc a o na (s0 a o e h)
          have D9f : D9 ≠ fd := fun e => by rw [e, hdc] at hD; cases hD
          have hDu : (upd Hc fd (.dK fs)) D9 = some (.lst (ps'.map V.ref)) := by rw [upd_ne D9f]; exact hD
          have Bu := Bc.new (u := .dK fs) fb
          have hpu : Paired (fun p kv => SqT K (upd Hc fd (.dK fs)) p [kV kv.1, kv.2]) ps' kvs' := paired_imp (fun p kv h => SqT.of (by rw [upd_ne (fun e => by have := h.2; rw [e, hdc] at this; cases this)]; exact h.2)) hpk
          refine ⟨hdc, D9, ps', kvs', rfl, SqL.of hDu, hpu, fun rd nrd => ?_⟩
          generalize upd Hc fd (.dK fs) = Hu at ou hDu Bu nrd
          have ov : Off b Hu (upd Hu rd (.dK (mergeK [] kvs'))) := Off.new nrd
          have rdb := Bu.ne nrd
          have hrd : (upd Hu rd (.dK (mergeK [] kvs'))) rd = some (.dK (mergeK [] kvs')) := upd_same
          have Bv := Bu.new (u := .dK (mergeK [] kvs')) rdb
          have rd4 := (e6.to s (oj.trans ou) Bu).nn nrd
          generalize upd Hu rd (.dK (mergeK [] kvs')) = Hv at ov hrd Bv
          have hrv := (ou.trans ov).mem rb hrj
          refine ⟨rl, rs, _, rfl, rfl, hrv, Nat.lt_of_le_of_lt (by omega : rs.length ≤ 1000) (by decide), ?_⟩
          have go : ∀ a ks, a ≠ b → Hv a = some (.dK ks) → (upd Hv rl (.lst (rs ++ [.ref rd]))) a = some (.dK ks) := fun a ks na h => by
            rw [upd_ne (fun e => by rw [e, hrv] at h; cases h)]
            exact h
          refine ⟨_, _, _, rs ++ [.ref rd], rfl, ((oj.trans ou).trans ov).put nrl, (Bv.new rb).mono (by omega), upd_same, by simp; omega, fun r hr => ?_⟩
          rcases List.mem_append.mp hr with y | y
          · exact (hrs r y).go (fun a ks na h => go a ks na ((ou.trans ov) a _ na h))
          · rw [List.mem_singleton.mp y]
            have hlm := len_merge kvs' []
            have hl0 : ([] : List (Key × V)).length = 0 := rfl
            refine ⟨rd, mergeK [] kvs', rfl, ⟨rdb, ers_mem (go rd _ rdb hrd) rd4⟩, by omega, fun p hp => ?_⟩
            rcases mem_merge hp with y | y
            · cases y
            · exact hkv p y
      · obtain ⟨y6', y12', y13', rs, rfl, oj, Bj, hrj, hrl, hrs⟩ := hP
        have e7 := e6.to s oj Bj
        refine ⟨.ref fd, rfl, .ref rl, rfl, by show 2 ≤ sizeLine; decide, fun tp ntp => ?_⟩
        have on : Off b Hj (upd Hj tp (.tup [.ref fd, .ref rl])) := Off.new ntp
        have atp : At b (upd Hj tp (.tup [.ref fd, .ref rl])) tp (.tup [.ref fd, .ref rl]) := .new Bj ntp
        have e8 := e7.to s on (Bj.new (Bj.ne ntp))
        have tp4 := e7.nn ntp
        have rl4 := e6.nn nrl
        generalize upd Hj tp (.tup [.ref fd, .ref rl]) = H8 at on atp e8
        refine ⟨.ref B, rfl, B, .ref lD, rfl, by rw [← book_lists]; exact DGet.k (k := .inr "lists") e8.hB, .str z, rfl, lD, _, rfl, DPut.k (k := .inr z) e8.hl (Nat.lt_of_le_of_lt (by omega : ll.length ≤ 1000) (by decide)), ?_⟩
        have hL8 := (oj.trans on).mem L0b hL6
        have hv : ListAt b (ers B lD tD kD H8) (.ref tp) := ⟨tp, fd, rl, fs, rs, rfl, atp.ers tp4, ⟨fb, ers_mem ((oj.trans on).mem fb hf6) fn⟩, hFF, ⟨rb, ers_mem (on.mem rb hrj) rl4⟩, by omega, fun r hr => (hrs r hr).off on.ers⟩
        refine ⟨_, _, _, _, _, _, _, _, _, _, _, putK ll (.inr z) (.ref tp), rfl, (e8.putL s hz (by omega) hv).mono s (by omega), Nat.le_trans (len_put _ _ _) (by omega), ?_⟩
        rw [upd_ne (fun e => by rw [e, e8.hl] at hL8; cases hL8)]
        exact hL8
    · obtain ⟨y3, y4, y5, y6, y7, y8, y9, y10, y11, y12, y13, ll, rfl, e, hll, _⟩ := hP
      have e3 := e.mono (N' := n + 100) s (by omega)
      clear e hll hxs hL0 e2
      -- the templates
      refine ⟨by show 3 ≤ sizeLine; decide, fun p np => ⟨.ref b, rfl, b, 4, _, rfl, e3.box.new (e3.box.ne np), by omega, by decide, by decide, fun k u k0 k1 B2 => ⟨k, rfl, p, [.str "box", .str "line", .str "wide"], rfl, SqL.of (Off.box p _ (e3.box.ne np) upd_same), fun L1 nL => ?_⟩⟩⟩
      have e4 := e3.to s ((Off.new np).trans Off.box) B2
      have L1b := B2.ne nL
      have e5 := e4.to s (Off.new (u := .lst (cutV [.str "box", .str "line", .str "wide"] none (some k))) nL) (e4.box.new L1b)
      have hL1 : (upd (upd (upd Hi p (.lst [.str "box", .str "line", .str "wide"])) b u) L1 (.lst (cutV [.str "box", .str "line", .str "wide"] none (some k)))) L1 = _ := upd_same
      generalize upd (upd (upd Hi p (.lst [.str "box", .str "line", .str "wide"])) b u) L1 (.lst (cutV [.str "box", .str "line", .str "wide"] none (some k))) = H5 at e5 hL1
      have hys : ∀ x ∈ cutV [.str "box", .str "line", .str "wide"] none (some k), ∃ z : Str, x = .str z ∧ Wd z := fun x hx => by
        have := mem_cut hx
        simp only [List.mem_cons, List.not_mem_nil, or_false] at this
        rcases this with e | e | e <;> exact ⟨_, e, wd_of (by decide +kernel)⟩
      have hyl : (cutV [.str "box", .str "line", .str "wide"] none (some k)).length ≤ 3 := cutV_length _ _ _
      have hnd : (cutV [.str "box", .str "line", .str "wide"] none (some k)).Nodup := (List.Sublist.trans (List.take_sublist _ _) (List.drop_sublist _ _)).nodup (by decide +kernel)
      have nd : ∀ (i j : Nat) (nm : Str), (cutV [.str "box", .str "line", .str "wide"] none (some k))[i]? = some (V.str nm) → (cutV [.str "box", .str "line", .str "wide"] none (some k))[j]? = some (V.str nm) → i = j := fun i j nm h1 h2 => by
        obtain ⟨l1, g1⟩ := List.getElem?_eq_some_iff.mp h1
        obtain ⟨l2, g2⟩ := List.getElem?_eq_some_iff.mp h2
        rcases Nat.lt_trichotomy i j with h | h | h
        · exact absurd (g1.trans g2.symm) (List.pairwise_iff_getElem.mp hnd i j l1 l2 h)
        · exact h
        · exact absurd (g2.trans g1.symm) (List.pairwise_iff_getElem.mp hnd j i l2 l1 h)
      clear hnd
      generalize cutV [.str "box", .str "line", .str "wide"] none (some k) = ys at hys hyl hL1 nd
      clear e4 e3 B2 np nL
      refine ⟨L1, rfl, ⟨_, SqL.of hL1⟩, ?_⟩
      refine for_list (K := K) (a := L1) (xs := ys) (fun i σ Hi => ∃ (y3 y4 y5 y6 y7 y8 y9 y10 y11 y12 y13 : Option V) (tt kk : List (Key × V)) (rk : Addr → Nat) (m : Nat), σ = [some (.ref b), some (.int 6), some (.ref B), y3, y4, y5, y6, y7, y8, y9, y10, y11, y12, y13] ∧ Bn b B lD tD kD H (n + 101 + i * 9000) ll tt kk Hi ∧ TI b B lD tD kD ys i tt kk rk m Hi ∧ Hi L1 = some (.lst ys))
        ⟨_, _, _, _, _, _, _, _, _, _, _, [], [], fun _ => 0, 0, rfl, e5.mono s (by omega), ⟨Nat.le_refl _, Nat.le_refl _, Nat.le_refl _, fun _ _ h => by (cases h), fun _ h => by (cases h), fun _ _ h => by (cases h)⟩, hL1⟩ (fun i σ Hi _ hP => by obtain ⟨_, _, _, _, _, _, _, _, _, _, _, _, _, _, _, _, _, _, h⟩ := hP; exact SqL.of h) (fun i x σ Hi hx hP => ?_) (fun σ Hi hP => ?_)
      · obtain ⟨y3, y4, y5, y6, y7, y8, y9, y10, y11, y12, y13, tt, kk, rk, m, rfl, e, ti, hL⟩ := hP
        have hi : i < ys.length := (List.getElem?_eq_some_iff.mp hx).1
        obtain ⟨nm, rfl, hnm⟩ := hys x (List.mem_of_getElem? hx)
        have mi := ti.mi
        have tl := ti.ti
        have kl := ti.ki
        have c2 : cst 2 = 1040 := rfl
        obtain ⟨ks, hks⟩ := keys_txt (ll := tt) fun p hp => let ⟨z, _, e1, _⟩ := ti.ts p hp; ⟨z, e1⟩
        have lks : ks.length = tt.length := by have := congrArg List.length hks; simpa using this.symm
        refine ⟨.ref B, rfl, B, .ref tD, rfl, by rw [← book_temps]; exact DGet.k (k := .inr "templates") e.hB, tD, tt, ks, rfl, .inl e.ht, hks, by omega, fun os po perm _ npo => ?_⟩
        have pob := e.box.ne npo
        have on6 : Off b Hi (upd Hi po (.lst (os.map V.str))) := Off.new npo
        have e6 := e.to s on6 (e.box.new pob)
        have ti6 := ti.off on6
        have hL6 := on6.mem L1b hL
        have hpo : (upd Hi po (.lst (os.map V.str))) po = some (.lst (os.map V.str)) := upd_same
        generalize upd Hi po (.lst (os.map V.str)) = H6 at e6 ti6 hL6 hpo
        unfold gName
        dsimp only
        refine ifs_any (R := fun c H' => Off b H6 H' ∧ Box H' b (n + 101 + i * 9000 + 1) ∧ (c = true → os ≠ [])) (fun Q' q' => ?_) (fun c H7 hc => ?_)
        · refine ⟨.ref po, rfl, Nat.zero_le _, fun e1 ne1 => ⟨po, e1, _, rfl, rfl, SqL.of (same_new ne1 _ _ hpo), SqL.of upd_same, _, rfl, ite2 (fun e' => ?_) (fun _ => q' _ _ ⟨Off.new ne1, (e6.box.new (e6.box.ne ne1)).mono (by omega), fun h => by cases h⟩)⟩⟩
          refine ⟨.ref b, rfl, b, 3, _, rfl, e6.box.new (e6.box.ne ne1), by omega, by decide, by decide, fun r u r0 r1 Br => ⟨rfl, _, rfl, q' _ _ ⟨(Off.new ne1).trans Off.box, Br, fun _ z => ?_⟩⟩⟩
          rw [z] at e'
          cases e'
        · obtain ⟨o7, B7, hc⟩ := hc
          have e7 := e6.to s o7 B7
          have ti7 := ti6.off o7
          have hL7 := o7.mem L1b hL6
          have hpo7 := o7.mem pob hpo
          cases c with
          | true =>
            rw [if_pos rfl]
            have ho0 : 0 < os.length := List.length_pos_iff.mpr (hc rfl)
            have hol : os.length = tt.length := by rw [perm.length_eq, lks]
            refine ⟨.ref b, rfl, .ref po, rfl, of_at e7.box (by omega) hpo7 pob (by rw [List.length_map]; exact ho0) (by rw [List.length_map]; omega) fun x H8 hx8 o8 B8 => ?_⟩
            obtain ⟨bs, p8, rfl, hp8, ep8, _⟩ := of_keys hks perm hx8
            obtain ⟨z8, d0, ez8, hw8, hv8, hr8, _⟩ := ti.ts p8 hp8
            rw [ep8] at ez8
            injection ez8 with ez8
            subst ez8
            have e8 := e7.to s o8 B8
            have ti8 := ti7.off o8
            have hL8 := o8.mem L1b hL7
            refine ⟨.ref b, rfl, .ref B, rfl, .str bs, rfl, Nat.zero_le _, fun e2 ne2 => ?_⟩
            have e2b := e8.box.ne ne2
            have on2 : Off b H8 (upd H8 e2 (.lst [])) := Off.new ne2
            have e9 := e8.to s on2 (e8.box.new e2b)
            have ti9 := ti8.off on2
            have hL9 := on2.mem L1b hL8
            have he2 : (upd H8 e2 (.lst [])) e2 = some (.lst []) := upd_same
            generalize upd H8 e2 (.lst []) = H9 at e9 ti9 hL9 he2
            refine ⟨2, by decide, b, B, lD, tD, kD, d0, e2, _, m, bs, true, kk, rk, rfl, e9.box, by omega, ⟨bB, e9.hB⟩, ⟨bk, e9.hk⟩, by omega, ti9.bk.off ers_off, hv8, hr8, ⟨[], ⟨e2b, he2⟩, by decide, fun _ h => by (cases h)⟩, ti9.ne, fun D' Ho hBD oo Bo => ?_⟩
            have eA := e9.to s oo Bo
            have tiA := ti9.off oo
            have hLA := oo.mem L1b hL9
            refine ⟨.str bs, rfl, .ref D', rfl, by show 2 ≤ sizeLine; decide, fun t1 nt1 => ?_⟩
            have on1 : Off b Ho (upd Ho t1 (.tup [.str bs, .ref D'])) := Off.new nt1
            have a1 : At b (upd Ho t1 (.tup [.str bs, .ref D'])) t1 _ := .new Bo nt1
            have eB := eA.to s on1 (Bo.new (Bo.ne nt1))
            have t14 := eA.nn nt1
            generalize upd Ho t1 (.tup [.str bs, .ref D']) = G1 at on1 a1 eB
            refine ⟨.ref B, rfl, B, .ref kD, rfl, by rw [← book_kinds]; exact DGet.k (k := .inr "kinds") eB.hB, .str bs, rfl, kD, .ref d0, rfl, by rw [← hv8]; exact DGet.k (k := .inr bs) eB.hk, by show 2 ≤ sizeLine; decide, fun t2 nt2 => ?_⟩
            have on2' : Off b G1 (upd G1 t2 (.tup [.ref t1, .ref d0])) := Off.new nt2
            have a2 : At b (upd G1 t2 (.tup [.ref t1, .ref d0])) t2 _ := .new eB.box nt2
            have eC := eB.to s on2' (eB.box.new (eB.box.ne nt2))
            generalize upd G1 t2 (.tup [.ref t1, .ref d0]) = G2 at on2' a2 eC
            have oF := on1.trans on2'
            have tiC := tiA.off oF
            have hLC := oF.mem L1b hLA
            refine ⟨t2, _, rfl, SqT.of a2.2, rfl, _, _, rfl, .ref B, rfl, B, .ref tD, rfl, by rw [← book_temps]; exact DGet.k (k := .inr "templates") eC.hB, .str nm, rfl, tD, _, rfl, DPut.k (k := .inr nm) eC.ht (Nat.lt_of_le_of_lt (by omega : tt.length ≤ 1000) (by decide)), _, _, rfl, .ref B, rfl, B, .ref kD, rfl, by rw [← book_kinds]; exact DGet.k (k := .inr "kinds") (by rw [upd_ne Bt]; exact eC.hB), .str nm, rfl, kD, _, rfl, DPut.k (k := .inr nm) (by rw [upd_ne tk.symm]; exact eC.hk) (Nat.lt_of_le_of_lt (by omega : kk.length ≤ 1000) (by decide)), rfl, ?_⟩
            obtain ⟨kvs, ad, hnd, hkl, hkk⟩ := hBD
            have d4 := e9.nn hnd
            have nb : ∀ a, H9 a = none → NB B lD tD kD a := fun a h => e9.nn h
            have tr : TrV b (fun a => H9 a = none) Ho (ers B lD tD kD G2) := ⟨oF.t.trans eC.offt, fun a ks hN na h => ers_mem (oF a _ na h) (e9.nn hN)⟩
            have hT : TempAt b (NB B lD tD kD) (ers B lD tD kD G2) 2 4 (.ref t1) := ⟨t1, .str bs, D', kvs, rfl, (a1.off on2').ers t14, .inr ⟨bs, rfl, hw8⟩, (ad.off oF).ers d4, d4, hkl, .inr fun p hp => let ⟨z', e', hz', hv'⟩ := hkk p hp; ⟨z', e', hz', (hv'.tr nb tr).up (by decide)⟩⟩
            refine ⟨_, _, _, _, _, _, _, _, _, _, _, _, _, rk, m, rfl, (eC.putT s _ _).mono s (by omega), tiC.put hx nd hnm (Nat.le_refl _) (by omega) hr8 (tiC.bk bs d0 hv8 hr8) (fun _ _ _ => rfl) hT (by rw [ers_put (.inr (.inr (.inr rfl))), ers_put (.inr (.inr (.inl rfl)))]), ?_⟩
            rw [upd_ne (fun e => by rw [e, eC.hk] at hLC; cases hLC), upd_ne (fun e => by rw [e, eC.ht] at hLC; cases hLC)]
            exact hLC
          | false =>
            rw [if_neg (by decide)]
            refine ⟨.ref b, rfl, .ref B, rfl, b, B, lD, tD, kD, _, m, 2, 4, kk, ll, tt, rk, rfl, e7.box, by omega, by decide, by decide, ⟨bB, e7.hB⟩, Bt, ⟨bk, e7.hk⟩, by omega, by decide, ti7.bk.off ers_off, ti7.ne, e7.listsAt s, ⟨bt, e7.ht⟩, by omega, fun p hp => let ⟨z, d, e1, hz, hv, hr, _⟩ := ti7.ts p hp; ⟨z, d, e1, hz, hv, hr⟩, fun tE FE KE ff kf Ho aT aF aK nF nK nFK hfl hkl hkf hff oo Bo => ?_⟩
            have eA := e7.to s oo Bo
            have tiA := ti7.off oo
            have hLA := oo.mem L1b hL7
            refine ⟨tE, _, rfl, SqT.of aT.2, rfl, _, _, rfl, _, _, rfl, rfl, ?_⟩
            refine ⟨.ref FE, rfl, by show 2 ≤ sizeLine; decide, fun t1 nt1 => ?_⟩
            have on1 : Off b Ho (upd Ho t1 (.tup [.non, .ref FE])) := Off.new nt1
            have a1 : At b (upd Ho t1 (.tup [.non, .ref FE])) t1 _ := .new Bo nt1
            have eB := eA.to s on1 (Bo.new (Bo.ne nt1))
            have t14 := eA.nn nt1
            generalize upd Ho t1 (.tup [.non, .ref FE]) = G1 at on1 a1 eB
            refine ⟨.ref KE, rfl, by show 2 ≤ sizeLine; decide, fun t2 nt2 => ?_⟩
            have on2' : Off b G1 (upd G1 t2 (.tup [.ref t1, .ref KE])) := Off.new nt2
            have a2 : At b (upd G1 t2 (.tup [.ref t1, .ref KE])) t2 _ := .new eB.box nt2
            have eC := eB.to s on2' (eB.box.new (eB.box.ne nt2))
            generalize upd G1 t2 (.tup [.ref t1, .ref KE]) = G2 at on2' a2 eC
            have oF := on1.trans on2'
            have tiC := tiA.off oF
            have hLC := oF.mem L1b hLA
            refine ⟨t2, _, rfl, SqT.of a2.2, rfl, _, _, rfl, .ref B, rfl, B, .ref tD, rfl, by rw [← book_temps]; exact DGet.k (k := .inr "templates") eC.hB, .str nm, rfl, tD, _, rfl, DPut.k (k := .inr nm) eC.ht (Nat.lt_of_le_of_lt (by omega : tt.length ≤ 1000) (by decide)), _, _, rfl, .ref B, rfl, B, .ref kD, rfl, by rw [← book_kinds]; exact DGet.k (k := .inr "kinds") (by rw [upd_ne Bt]; exact eC.hB), .str nm, rfl, kD, _, rfl, DPut.k (k := .inr nm) (by rw [upd_ne tk.symm]; exact eC.hk) (Nat.lt_of_le_of_lt (by omega : kk.length ≤ 1000) (by decide)), rfl, ?_⟩
            have F4 := e7.nn nF
            have K4 := e7.nn nK
            have nb : ∀ a, (H7 a = none ∧ a ≠ FE ∧ a ≠ KE) → NB B lD tD kD a ∧ a ≠ FE := fun a h => ⟨e7.nn h.1, h.2.1⟩
            have tr : TrV b (fun a => H7 a = none ∧ a ≠ FE ∧ a ≠ KE) Ho (ers B lD tD kD G2) := ⟨oF.t.trans eC.offt, fun a ks hN na h => ers_mem (oF a _ na h) (e7.nn hN.1)⟩
            have hT : TempAt b (NB B lD tD kD) (ers B lD tD kD G2) 2 4 (.ref t1) := ⟨t1, .non, FE, ff, rfl, (a1.off on2').ers t14, .inl rfl, (aF.off oF).ers F4, F4, hfl, .inl fun p hp => let ⟨z', e', hz', hv'⟩ := hff p hp; ⟨z', e', hz', hv'.tr nb tr⟩⟩
            have hne : ∀ nm d, valV kk (.inr nm) = some (.ref d) → d ≠ KE := fun nm d hv e' => by
              obtain ⟨fs, a, _⟩ := ti7.bk nm d hv (ti7.fr nm d hv).1
              have := (ers_some a.2).2
              rw [e', nK] at this
              cases this
            refine ⟨_, _, _, _, _, _, _, _, _, _, _, _, _, fun a => if a = KE then m else rk a, m + 1, rfl, (eC.putT s _ _).mono s (by omega), tiC.put hx nd hnm (by omega) (by omega) (by show (if KE = KE then m else rk KE) < m + 1; rw [if_pos rfl]; omega) ⟨kf, (aK.off oF).ers K4, hkl, fun p hp => ?_⟩ (fun nm d hv => if_neg (hne nm d hv)) hT (by rw [ers_put (.inr (.inr (.inr rfl))), ers_put (.inr (.inr (.inl rfl)))]), ?_⟩
            · show KindOk b (ers B lD tD kD G2) kk rk (if KE = KE then m else rk KE) p
              rw [if_pos rfl]
              exact (hkf p hp).offT (oF.t.trans eC.offt)
            · rw [upd_ne (fun e => by rw [e, eC.hk] at hLC; cases hLC), upd_ne (fun e => by rw [e, eC.ht] at hLC; cases hLC)]
              exact hLC
      · obtain ⟨y3, y4, y5, y6, y7, y8, y9, y10, y11, y12, y13, tt, kk, rk, m, rfl, e, ti, hL⟩ := hP
        have mi := ti.mi
        have tl := ti.ti
        have kl := ti.ki
        have c3 : cst 3 = 5200 - 832 := rfl
        have e7 := e.mono (N' := n + 101 + 27000) s (by have : ys.length * 9000 ≤ 3 * 9000 := Nat.mul_le_mul_right _ hyl; omega)
        refine ⟨.ref b, rfl, .ref B, rfl, .int 6, rfl, b, B, lD, tD, kD, _, m, 3, 6, kk, ll, tt, rk, rfl, e7.box, by omega, by decide, by decide, ⟨bB, e7.hB⟩, Bt, ⟨bk, e7.hk⟩, by omega, by decide, ti.bk.off ers_off, ti.ne, e7.listsAt s, ⟨bt, e7.ht⟩, by omega, fun p hp => let ⟨z, d, e1, hz, hv, hr, _⟩ := ti.ts p hp; ⟨z, d, e1, hz, hv, hr⟩, fun tE FE KE ff kf Ho aT aF aK nF nK nFK hfl hkl hkf hff oo Bo => ?_⟩
        have eA := e7.to s oo Bo
        have tiA := ti.off oo
        refine ⟨tE, _, rfl, SqT.of aT.2, rfl, _, _, rfl, _, _, rfl, rfl, ?_⟩
        refine ⟨.ref FE, rfl, by show 2 ≤ sizeLine; decide, fun t1 nt1 => ?_⟩
        have on1 : Off b Ho (upd Ho t1 (.tup [.non, .ref FE])) := Off.new nt1
        have a1 : At b (upd Ho t1 (.tup [.non, .ref FE])) t1 _ := .new Bo nt1
        have eB := eA.to s on1 (Bo.new (Bo.ne nt1))
        have t14 := eA.nn nt1
        generalize upd Ho t1 (.tup [.non, .ref FE]) = G1 at on1 a1 eB
        refine ⟨.ref KE, rfl, by show 2 ≤ sizeLine; decide, fun t2 nt2 => ?_⟩
        have on2' : Off b G1 (upd G1 t2 (.tup [.ref t1, .ref KE])) := Off.new nt2
        have a2 : At b (upd G1 t2 (.tup [.ref t1, .ref KE])) t2 _ := .new eB.box nt2
        have eC := eB.to s on2' (eB.box.new (eB.box.ne nt2))
        generalize upd G1 t2 (.tup [.ref t1, .ref KE]) = G2 at on2' a2 eC
        have oF := on1.trans on2'
        have tiC := tiA.off oF
        refine ⟨t2, _, rfl, SqT.of a2.2, rfl, _, _, rfl, .ref B, rfl, B, .ref tD, rfl, by rw [← book_temps]; exact DGet.k (k := .inr "templates") eC.hB, tD, _, rfl, DPut.k (k := .inr "") eC.ht (Nat.lt_of_le_of_lt (by omega : tt.length ≤ 1000) (by decide)), _, _, rfl, .ref B, rfl, B, .ref kD, rfl, by rw [← book_kinds]; exact DGet.k (k := .inr "kinds") (by rw [upd_ne Bt]; exact eC.hB), kD, _, rfl, DPut.k (k := .inr "") (by rw [upd_ne tk.symm]; exact eC.hk) (Nat.lt_of_le_of_lt (by omega : kk.length ≤ 1000) (by decide)), rfl, ?_⟩
        have F4 := e7.nn nF
        have nb : ∀ a, (Hi a = none ∧ a ≠ FE ∧ a ≠ KE) → NB B lD tD kD a ∧ a ≠ FE := fun a h => ⟨e7.nn h.1, h.2.1⟩
        have tr : TrV b (fun a => Hi a = none ∧ a ≠ FE ∧ a ≠ KE) Ho (ers B lD tD kD G2) := ⟨oF.t.trans eC.offt, fun a ks hN na h => ers_mem (oF a _ na h) (e7.nn hN.1)⟩
        have hT : TempAt b (NB B lD tD kD) (ers B lD tD kD G2) 3 6 (.ref t1) := ⟨t1, .non, FE, ff, rfl, (a1.off on2').ers t14, .inl rfl, (aF.off oF).ers F4, F4, hfl, .inl fun p hp => let ⟨z', e', hz', hv'⟩ := hff p hp; ⟨z', e', hz', hv'.tr nb tr⟩⟩
        have eD := eC.putT s (putK tt (.inr "") (.ref t1)) (putK kk (.inr "") (.ref KE))
        have hE : ers B lD tD kD (upd (upd G2 tD (.dK (putK tt (.inr "") (.ref t1)))) kD (.dK (putK kk (.inr "") (.ref KE)))) = ers B lD tD kD G2 := by rw [ers_put (.inr (.inr (.inr rfl))), ers_put (.inr (.inr (.inl rfl)))]
        generalize upd (upd G2 tD (.dK (putK tt (.inr "") (.ref t1)))) kD (.dK (putK kk (.inr "") (.ref KE))) = G3 at eD hE
        refine ⟨.ref B, rfl, q B _ ⟨lD, tD, kD, ll, putK tt (.inr "") (.ref t1), ⟨bB, eD.hB⟩, Bl, Bt, lt, eD.listsAt s, fun p hp => let ⟨_, _, _, h⟩ := eD.ls p hp; h, ⟨bt, eD.ht⟩, Nat.le_trans (len_put _ _ _) (by omega), ⟨_, by rw [valV_put, if_pos rfl], by rw [hE]; exact hT⟩, fun p hp => ?_⟩ eD.off (eD.box.mono (by omega))⟩
        rw [hE]
        rcases mem_put hp with y | y
        · rw [y]
          exact ⟨"", rfl, .inl ⟨rfl, hT⟩⟩
        · obtain ⟨z, d, e1, hz, _, _, h⟩ := tiC.ts p y
          exact ⟨z, e1, .inr ⟨hz, h⟩⟩
end
end M02

set_option Elab.async false
set_option linter.all false
set_option maxRecDepth 100000
set_option maxHeartbeats 4000000
/-! signs of a text -/
namespace M02
open PySem PySem.Spec PyProof.Rows L2 GL GT
/-- a text that is tokens, whatever stands behind it (no letter, no digit) -/
def Sg (t : Cd) : Prop := ∀ (n : Nat) (r : Cd) (qs : List (Nat × Cd)), (∀ c, r.head? = some c → c ∉ lets ∧ c ∉ digs) → Lx (n + t.length) r qs → ∃ ps, Lx n (t ++ r) ps
theorem Sg.tok {t : Cd} (h : Tok t) : Sg t := fun n r qs hr q => ⟨_, .tok h (fun c d hc hd => ⟨fun _ => (hr c hc).1, fun _ => (hr c hc).2⟩) q⟩
theorem Sg.append {t u : Cd} (h : Sg t) (g : Sg u) (hu : u ≠ []) (hh : ∀ c, u.head? = some c → c ∉ lets ∧ c ∉ digs) : Sg (t ++ u) := fun n r qs hr q => by
  rw [List.append_assoc]
  obtain ⟨ps, q1⟩ := g (n + t.length) r qs hr (by rw [List.length_append] at q; rw [Nat.add_assoc]; exact q)
  refine h n (u ++ r) ps (fun c hc => hh c ?_) q1
  cases u with
  | nil => exact absurd rfl hu
  | cons x y => exact hc
theorem Sg.sign {c : Nat} {u : Cd} (h : c ∈ sgns) (hl : c ∉ lets ∧ c ∉ digs) (g : Sg u) : Sg (c :: u) := fun n r qs hr q => by
  obtain ⟨ps, q1⟩ := g (n + 1) r qs hr (by rw [List.length_cons] at q; rw [show n + 1 + u.length = n + (u.length + 1) by omega]; exact q)
  refine ⟨(n, [c]) :: ps, Lx.tok (t := [c]) (.sign h) (fun a d ha hd => ?_) q1⟩
  have : c = d := by simpa using hd
  subst this
  exact ⟨fun z => absurd z hl.1, fun z => absurd z hl.2⟩
theorem Sg.gap {u : Cd} (g : Sg u) : Sg (32 :: u) := fun n r qs hr q => by
  obtain ⟨ps, q1⟩ := g (n + 1) r qs hr (by rw [List.length_cons] at q; rw [show n + 1 + u.length = n + (u.length + 1) by omega]; exact q)
  exact ⟨ps, .gap (.inl rfl) q1⟩
def SgOk (z : Str) : Prop := Sg (cs z) ∧ (cs z).length ≤ 20
theorem SgOk.wd {z : Str} (h : Wd z) : SgOk z := ⟨.tok (.word h.1 h.2.1), by have := h.2.2; omega⟩
theorem wd_key {z : Str} (h : cs z ≠ [] ∧ (∀ c ∈ cs z, c ∈ lets) ∧ (cs z).length ≤ 20) : SgOk z := ⟨.tok (.word h.1 h.2.1), h.2.2⟩
theorem sg_one {z : Str} {c : Nat} (e : cs z = [c]) (h : c ∈ sgns) : SgOk z := ⟨by rw [e]; exact .tok (.sign h), by rw [e]; show 1 ≤ 20; decide⟩
theorem dot_head {u : Cd} : ∀ c, (46 :: u).head? = some c → c ∉ lets ∧ c ∉ digs := fun c hc => by
  have : 46 = c := by simpa using hc
  subst this
  decide +kernel
theorem sg_dot {a b : Str} (ha : Wd a) (hb : Wd b) : SgOk (a ++ "." ++ b) := by
  have e : cs (a ++ "." ++ b) = cs a ++ (46 :: cs b) := by
    rw [cs_app, cs_app, show cs "." = [46] by decide +kernel, List.append_assoc]
    rfl
  refine ⟨?_, ?_⟩
  · rw [e]
    exact Sg.append (.tok (.word ha.1 ha.2.1)) (.sign (by decide +kernel) (by decide +kernel) (.tok (.word hb.1 hb.2.1))) (by simp) dot_head
  · rw [e, List.length_append, List.length_cons]
    have := ha.2.2
    have := hb.2.2
    omega
theorem sg_join {ws : List Str} (hl : ws.length = 1 ∨ ws.length = 2) (hw : ∀ w ∈ ws, Wd w) : SgOk (Txt.join "." ws) := by
  match ws, hl, hw with
  | [], h, _ => simp at h
  | [a], _, hw =>
    have e : cs (Txt.join "." [a]) = cs a := by rw [cs_join]; rfl
    have := SgOk.wd (hw a (by simp))
    exact ⟨by rw [e]; exact this.1, by rw [e]; exact this.2⟩
  | [a, c], _, hw =>
    have e : cs (Txt.join "." [a, c]) = cs (a ++ "." ++ c) := by
      rw [cs_join, cs_app, cs_app]
      simp [TL.joinL]
    have := sg_dot (hw a (by simp)) (hw c (by simp))
    exact ⟨by rw [e]; exact this.1, by rw [e]; exact this.2⟩
  | _ :: _ :: _ :: _, h, _ => simp at h
theorem sg_str {z : Str} (h : Inn (cs z)) (l : (cs z).length ≤ 8) : SgOk ("\"" ++ z ++ "\"") := by
  have e : cs ("\"" ++ z ++ "\"") = 34 :: (cs z ++ [34]) := by
    rw [cs_app, cs_app, show cs "\"" = [34] by decide +kernel]
    rfl
  refine ⟨by rw [e]; exact .tok (.str h), by rw [e, List.length_cons, List.length_append, List.length_singleton]; omega⟩
theorem sg_num {n : Int} (h : NumOk n) : SgOk (nT (absI n)) := ⟨.tok h.1, by have := h.2.1; omega⟩
/-- a list of signs -/
def SgL (zs : List V) : Prop := ∀ x ∈ zs, ∃ z : Str, x = .str z ∧ SgOk z
theorem SgL.nil : SgL [] := fun _ h => by cases h
theorem SgL.cons {z : Str} {zs : List V} (h : SgOk z) (g : SgL zs) : SgL (.str z :: zs) := fun x hx => by
  rcases List.mem_cons.mp hx with e | e
  · exact ⟨z, e, h⟩
  · exact g x e
theorem SgL.app {xs ys : List V} (h : SgL xs) (g : SgL ys) : SgL (xs ++ ys) := fun x hx => by
  rcases List.mem_append.mp hx with e | e
  · exact h x e
  · exact g x e
theorem SgL.rep {xs : List V} {k : Nat} (h : SgL xs) : SgL (List.replicate k xs).flatten := fun x hx => by
  obtain ⟨l, hl, hx⟩ := List.mem_flatten.mp hx
  rw [(List.mem_replicate.mp hl).2] at hx
  exact h x hx
/-- a dict that is nowhere within its own values -/
theorem VV.avoid {b D : Addr} {N : Addr → Prop} {H : Hp} : ∀ {n : Nat} {v : V}, VV b N H n v → (∀ k, k < n → ¬ BD b N H k D) → VV b (fun a => N a ∧ a ≠ D) H n v
  | 0, _, h, _ => h
  | n + 1, v, h, hk => by
    refine h.imp id ?_
    rintro ⟨t, d, kvs, e, a, hn, l, hf, h⟩
    refine ⟨t, d, kvs, e, a, ⟨hn, fun z => hk n (Nat.lt_succ_self n) (z ▸ ⟨kvs, a, hn, l, hf⟩)⟩, l, fun p hp => ?_, h⟩
    obtain ⟨z, e1, hz, hv⟩ := hf p hp
    exact ⟨z, e1, hz, hv.avoid fun k h => hk k (Nat.lt_succ_of_lt h)⟩
theorem BD.least {b D : Addr} {N : Addr → Prop} {H : Hp} : ∀ {n : Nat}, BD b N H n D → ∃ m, m ≤ n ∧ BD b N H m D ∧ ∀ k, k < m → ¬ BD b N H k D := by
  intro n
  induction n using Nat.strongRecOn with
  | ind n ih =>
    intro h
    by_cases z : ∃ k, k < n ∧ BD b N H k D
    · obtain ⟨k, hk, hd⟩ := z
      obtain ⟨m, h1, h2, h3⟩ := ih k hk hd
      exact ⟨m, by omega, h2, h3⟩
    · exact ⟨n, Nat.le_refl _, h, fun k hk hd => z ⟨k, hk, hd⟩⟩
end M02

set_option Elab.async false
set_option linter.all false
set_option maxRecDepth 100000
set_option maxHeartbeats 4000000
/-! signs of literals and of values: _law_literal_signs, _law_value_signs -/
namespace M02
open PySem PySem.Spec PyProof.Rows L2 GL GT
theorem scS1 : FnScope ["_law_value_here"] ["_law_value_here"] (defScope sLSig) := ⟨rfl, rfl, rfl, by decide +kernel, rfl, by decide +kernel, by decide +kernel⟩
theorem scS2 : FnScope ["_law_value_here", "_law_word", "_law_found", "_law_at", "_law_factor", "_law_path", "_law_times"] ["_law_value_here"] (defScope sVSig) := ⟨rfl, rfl, rfl, by decide +kernel, rfl, by decide +kernel, by decide +kernel⟩
theorem kIS : kitB "int" "str" = some false := by decide +kernel
theorem hl_of {z : Str} {k : Nat} (h : (cs z).length ≤ k) : z.length ≤ k := by
  rw [len_cs]
  exact h
theorem log_le {n : Nat} (h : n < 2 ^ 60) : n.log2 < 1920 := by
  by_cases z : n = 0
  · rw [z]
    decide
  · have := (Nat.log2_lt z).mpr h
    omega
theorem sg_minus : SgOk "-" := sg_one (c := 45) (by decide +kernel) (by decide +kernel)
theorem old_none {H H' : Hp} {p : Addr} (s : Same H H') (h : H' p = none) : H p = none := by
  cases e : H p with
  | none => rfl
  | some o =>
    rw [s p o e] at h
    cases h
/-- signs in a new list -/
def Sgs (H : Hp) (k : Nat) (Q : VK) : Prop := ∀ (H' : Hp) (L : Addr) (zs : List V), Same H H' → H L = none → H' L = some (.lst zs) → zs.length ≤ k → SgL zs → Q (.ref L) H'
section
variable {P : Program} {w : World} {K : PySem.W.Frag} {mg : Str → Option Value} {base : Heap}
def spLSig : Sp := fun vs H Q _ => ∃ v : V, vs = [v] ∧ Lit v ∧ Sgs H 2 Q
theorem ok_lsig {f : Addr} {fd : FuncData} (F : Fun K "_law_literal_signs" "_law_literal_signs" sLSig f fd) (T : Bl K mg) : FnG P w K mg base CX0 1 f fd ["_law_value_here"] spLSig := by
  refine okG0 F scS1 (fun vs H Q E h => ?_) (fun cdv A outer s H vs Q E hr hG h => ?_)
  · obtain ⟨_, rfl, _⟩ := h
    rfl
  · obtain ⟨v, rfl, hv, q⟩ := h
    refine ⟨_, (pss_cons (ps_if (pt_val (pe_callB call_isi (by rfl) T.isinstance (by decide +kernel) (pa_cons (pv 0) (pa_cons (pe_bltn (v := .ty "str") (by rfl) T.str (by decide +kernel) rfl) pa_nil))))
        (pss_one (ps_ret (pe_lst (pa_cons (pe_op op_add_str (pe_op op_add_str pe_str (pv 0)) pe_str) pa_nil))))
        pss_nil)
      (pss_one (ps_ret (pe_op op_cat (pe_op op_rep (pe_lst (pa_cons pe_str pa_nil)) (pe_callTy call_int1 (by rfl) T.int (by decide +kernel) (pa_cons (pe_cmpR op_lt (pv 0) pe_int (nomark _)) pa_nil))) (pe_lst (pa_cons (pe_callTy call_str_int (by rfl) T.str (by decide +kernel) (pa_cons (pe_callB call_abs (by rfl) T.abs (by decide +kernel) (pa_cons (pv 0) pa_nil)) pa_nil)) pa_nil)))))), ?_⟩
    rcases hv with ⟨z, rfl, hI, hl⟩ | ⟨n, rfl, hN⟩
    · refine ⟨.str z, rfl, .str z, .ty "str", _, _, true, rfl, .ty "str", .base (.str z), kit_ty kSS, true, rfl, ?_⟩
      have hz : z.length ≤ 8 := hl_of hl
      have h1 : ("\"" : Str).length = 1 := by decide +kernel
      have h2 : ("\"" ++ z : Str).length ≤ 9 := hl_of (by rw [cs_app, List.length_append, show (cs "\"").length = 1 by decide +kernel]; omega)
      refine iteT ⟨.str z, rfl, _, _, rfl, rfl, big_le (by omega), _, _, rfl, rfl, big_le (by omega), by show 1 ≤ sizeLine; decide, fun p np => q _ p _ (same_new np) np upd_same (by show 1 ≤ 2; decide) (.cons (sg_str hI hl) .nil)⟩
    · refine ⟨.int n, rfl, .int n, .ty "str", _, _, false, rfl, .ty "str", .base (.int n), kit_ty kIS, false, rfl, ?_⟩
      refine iteF ⟨by show 1 ≤ sizeLine; decide, fun p1 np1 => ⟨.int n, rfl, n, 0, rfl, rfl, .inr ⟨_, rfl, p1, _, [.str "-"], rfl, rfl, upd_same, ?_, ?_, ?_, fun p2 np2 => ⟨.int n, rfl, n, rfl, _, rfl, log_le (by have := hN.2.2; show (absI n).natAbs < 2 ^ 60; unfold absI; split <;> omega), by show 1 ≤ sizeLine; decide, fun p3 np3 => ?_⟩⟩⟩⟩
      · split <;> decide
      · split <;> decide
      · split <;> decide
      · refine ⟨p2, p3, _, _, rfl, rfl, same_new np3 _ _ upd_same, upd_same, ?_, fun p4 np4 => ?_⟩
        · split
          · show 2 ≤ sizeLine
            decide
          · show 1 ≤ sizeLine
            decide
        · refine q _ p4 _ (fun a o h => same_new np4 _ _ (same_new np3 _ _ (same_new np2 _ _ (same_new np1 _ _ h)))) ?_ upd_same ?_ ((SgL.rep (.cons sg_minus .nil)).app (.cons (sg_num hN) .nil))
          · exact old_none (fun a o h => same_new np3 _ _ (same_new np2 _ _ (same_new np1 _ _ h))) np4
          · split
            · show 2 ≤ 2
              decide
            · show 1 ≤ 2
              decide
end
end M02

set_option Elab.async false
set_option linter.all false
set_option maxRecDepth 100000
set_option maxHeartbeats 4000000
/-! signs of values: _law_value_signs -/
namespace M02
open PySem PySem.Spec PyProof.Rows L2 GL GT
def SVp (b : Addr) (H : Hp) (v : V) : Prop := SV b H v ∨ ∃ (t : Addr) (q : V), v = .ref t ∧ At b H t (.tup [.str "path", q]) ∧ PathAt b H q
/-- what a value's signs need of the two others -/
def spVg (sA sB : Sp) : Sp := fun vs H Q _ => ∃ (b : Addr) (v : V), vs = [v] ∧ ((SVp b H v ∧ Sgs H 12 Q) ∨
  (∃ (t : Addr) (q x y z : V), v = .ref t ∧ At b H t (.tup [.str "if", q, x, y, z]) ∧ PathAt b H q ∧ Lit x ∧ (∀ H' Q', Same H H' → Sgs H' 12 Q' → sA [y] H' Q' E0) ∧ (∀ H' Q', Same H H' → Sgs H' 12 Q' → sA [z] H' Q' E0) ∧ Sgs H 31 Q) ∨
  ∃ (t d : Addr) (kvs : List (Key × V)) (kb : Nat), v = .ref t ∧ At b H d (.dK kvs) ∧ kb ≤ 100000 ∧ (∀ H' Q', Same H H' → Sgs H' kb Q' → sB [.ref d] H' Q' E0) ∧ Sgs H (21 + kb) Q ∧
    (At b H t (.tup [.str "body", .ref d]) ∨ (∃ nm : Str, At b H t (.tup [.str "new", .str nm, .ref d]) ∧ Wd nm) ∨ ∃ (src nm : Str) (wh : V), At b H t (.tup [.str "loop", .str "it", .str src, wh, .str nm, .ref d]) ∧ Wd src ∧ Wd nm ∧
      (wh = .non ∨ ∃ (w r : Addr) (left : Str), wh = .ref w ∧ At b H w (.tup [.str left, .ref r]) ∧ Wd left ∧ ∀ H' Q', Same H H' → Sgs H' 12 Q' → sA [.ref r] H' Q' E0)))
theorem deq {a b : Str} (h : a ≠ b) : decide (V.str a = V.str b) = false := by
  rw [decide_eq_false_iff_not]
  exact fun e => h (by injection e)
theorem Same.trans {H H1 H2 : Hp} (x : Same H H1) (y : Same H1 H2) : Same H H2 := fun a o h => y _ _ (x _ _ h)
theorem Same.off {b : Addr} {H H1 : Hp} (x : Same H H1) : Off b H H1 := fun a o _ h => x a o h
theorem sg_plus : SgOk "+" := sg_one (c := 43) (by decide +kernel) (by decide +kernel)
theorem sg_times : SgOk "*" := sg_one (c := 42) (by decide +kernel) (by decide +kernel)
theorem sg_eq : SgOk "=" := sg_one (c := 61) (by decide +kernel) (by decide +kernel)
theorem join_len {ws : List Str} (hl : ws.length = 1 ∨ ws.length = 2) (hw : ∀ w ∈ ws, Wd w) : (ws.map (·.length)).sum + ws.length * ("." : Str).length ≤ 16777216 := by
  have h1 : ("." : Str).length = 1 := by decide +kernel
  have hw' : ∀ w ∈ ws, w.length ≤ 8 := fun w h => hl_of (hw w h).2.2
  rw [h1]
  match ws, hl, hw' with
  | [], h, _ => simp at h
  | [a], _, hw => have := hw a (by simp); simp; omega
  | [a, c], _, hw => have := hw a (by simp); have := hw c (by simp); simp; omega
  | _ :: _ :: _ :: _, h, _ => simp at h
theorem rep_le {k : Bool} {xs : List V} : (List.replicate (if k = true then (1 : Int) else 0).toNat xs).flatten.length ≤ xs.length := by
  cases k
  · exact Nat.zero_le _
  · show (List.replicate 1 xs).flatten.length ≤ _
    simp
/-- a list times a truth value -/
theorem rep01 {H : Hp} {p1 : Addr} {k : Bool} {xs : List V} {Q : VK} (h : H p1 = some (.lst xs)) (hl : xs.length ≤ 2) (q : ∀ p ws, H p = none → ws.length ≤ xs.length → (SgL xs → SgL ws) → Q (.ref p) (upd H p (.lst ws))) : rRep (.ref p1) (.int (if k = true then 1 else 0)) H Q :=
  ⟨p1, _, xs, rfl, rfl, h, by split <;> decide, by split <;> decide, by
    have := big_le (n := xs.length * (if k = true then (1 : Int) else 0).toNat) (by cases k <;> simp <;> omega)
    exact this, fun p np => q p _ np rep_le fun g => g.rep⟩
section
variable {P : Program} {w : World} {K : PySem.W.Frag} {mg : Str → Option Value} {base : Heap}
theorem ok_vg {f : Addr} {fd : FuncData} {sA sB : Sp} {k : Nat} (hk : 1 ≤ k) (F : Fun K "_law_value_signs" "_law_value_signs" sVSig f fd) (T : Bl K mg) (d_literal_signs : DnG P w K mg base "_law_literal_signs" 1 ["_law_value_here"] spLSig)
    (d_value_signs : DnG P w K mg base "_law_value_signs" k ["_law_value_here"] sA) (d_body_signs : DnG P w K mg base "_law_body_signs" k ["_law_body_here"] sB) : FnG P w K mg base CX0 (k + 1) f fd ["_law_value_here"] (spVg sA sB) := by
  refine okG0 F scS2 (fun vs H Q E h => ?_) (fun cdv A outer s H vs Q E hr hG h => ?_)
  · obtain ⟨_, _, rfl, _⟩ := h
    rfl
  · obtain ⟨b, v, rfl, h⟩ := h
    refine ⟨_, (pss_cons (ps_set (i := 1) scS2.nd rfl (Or.inl rfl) (pe_ix (r := rIxT K) ix_tup (pv 0) pe_int (fun _ _ => rfl)))
      (pss_cons (ps_if (pt_cmpR op_eq (pv 1) pe_str (nomark _))
        (pss_one (ps_ret (pe_callG d_literal_signs.ok (hr.mono (by omega)) hG (by rfl) d_literal_signs.g d_literal_signs.kp d_literal_signs.b .nil pass0 (pa_cons (pe_ix (r := rIxT K) ix_tup (pv 0) pe_int (fun _ _ => rfl)) pa_nil))))
        pss_nil)
      (pss_cons (ps_if (pt_cmpR (r := rIn K false) op_in_seq (pv 1) (pe_tup (pa_cons pe_str (pa_cons pe_str pa_nil))) (by rfl))
        (pss_one (ps_ret (pe_lst (pa_cons (pe_join pe_str (pe_ix (r := rIxT K) ix_tup (pv 0) pe_int (fun _ _ => rfl))) pa_nil))))
        pss_nil)
      (pss_cons (ps_if (pt_cmpR op_eq (pv 1) pe_str (nomark _))
        (pss_cons (ps_set (i := 2) scS2.nd rfl (Or.inl rfl) (pe_op op_cat (pe_op op_cat (pe_lst (pa_cons pe_str (pa_cons (pe_join pe_str (pe_ix (r := rIxT K) ix_tup (pv 0) pe_int (fun _ _ => rfl))) (pa_cons pe_str pa_nil)))) (pe_callG d_literal_signs.ok (hr.mono (by omega)) hG (by rfl) d_literal_signs.g d_literal_signs.kp d_literal_signs.b .nil pass0 (pa_cons (pe_ix (r := rIxT K) ix_tup (pv 0) pe_int (fun _ _ => rfl)) pa_nil))) (pe_lst (pa_cons pe_str pa_nil))))
        (pss_one (ps_ret (pe_op op_cat (pe_op op_cat (pe_op op_cat (pv 2) (pe_callG d_value_signs.ok (hr.mono (by omega)) hG (by rfl) d_value_signs.g d_value_signs.kp d_value_signs.b .nil pass0 (pa_cons (pe_ix (r := rIxT K) ix_tup (pv 0) pe_int (fun _ _ => rfl)) pa_nil))) (pe_lst (pa_cons pe_str pa_nil))) (pe_callG d_value_signs.ok (hr.mono (by omega)) hG (by rfl) d_value_signs.g d_value_signs.kp d_value_signs.b .nil pass0 (pa_cons (pe_ix (r := rIxT K) ix_tup (pv 0) pe_int (fun _ _ => rfl)) pa_nil))))))
        pss_nil)
      (pss_cons (ps_if (pt_cmpR op_eq (pv 1) pe_str (nomark _))
        (pss_cons (ps_set (i := 2) scS2.nd rfl (Or.inl rfl) (pe_lst pa_nil))
        (pss_cons (ps_for PassesOwn.never rfl (pi_enum (by rfl) T.enumerate (pa_cons (pe_ix (r := rIxT K) ix_tup (pv 0) pe_int (fun _ _ => rfl)) pa_nil)) (pg_tup rfl (pgs_cons (pg_name (i := 3) scS2.nd rfl (Or.inl rfl)) (pgs_cons (pg_tup rfl (pgs_cons (pg_name (i := 4) scS2.nd rfl (Or.inl rfl)) (pgs_cons (pg_name (i := 5) scS2.nd rfl (Or.inl rfl)) pgs_nil))) pgs_nil)))
          (pss_cons (ps_expr (pe_bm PySem.F.plainAttrs_list PySem.F.slot_list_extend PySem.F.type_list_extend mt_extend (pv 2) (pa_cons (pe_ifExp (pt_cmpR op_lt (pv 4) pe_int (nomark _)) (pe_lst (pa_cons pe_str pa_nil)) (pe_op op_rep (pe_lst (pa_cons pe_str pa_nil)) (pe_callTy call_int1 (by rfl) T.int (by decide +kernel) (pa_cons (pe_cmpR op_gt (pv 3) pe_int (nomark _)) pa_nil)))) pa_nil)))
          (pss_cons (ps_set (i := 6) scS2.nd rfl (Or.inl rfl) (pe_ifExp (pt_cmpR op_notN (pv 5) pe_non (nomark _)) (pe_op op_rep (pe_lst (pa_cons (pe_callTy call_str_int (by rfl) T.str (by decide +kernel) (pa_cons (pe_callB call_abs (by rfl) T.abs (by decide +kernel) (pa_cons (pv 4) pa_nil)) pa_nil)) (pa_cons pe_str pa_nil))) (pe_callTy call_int1 (by rfl) T.int (by decide +kernel) (pa_cons (pe_cmpR op_gt (pe_callB call_abs (by rfl) T.abs (by decide +kernel) (pa_cons (pv 4) pa_nil)) pe_int (nomark _)) pa_nil))) (pe_lst (pa_cons (pe_callTy call_str_int (by rfl) T.str (by decide +kernel) (pa_cons (pe_callB call_abs (by rfl) T.abs (by decide +kernel) (pa_cons (pv 4) pa_nil)) pa_nil)) pa_nil))))
          (pss_one (ps_expr (pe_bm PySem.F.plainAttrs_list PySem.F.slot_list_extend PySem.F.type_list_extend mt_extend (pv 2) (pa_cons (pe_op op_cat (pv 6) (pe_ifExp (pt_cmpR op_notN (pv 5) pe_non (nomark _)) (pe_lst (pa_cons (pe_join pe_str (pv 5)) pa_nil)) (pe_lst pa_nil))) pa_nil)))))))
        (pss_one (ps_ret (pv 2)))))
        pss_nil)
      (pss_cons (ps_if (pt_cmpR op_eq (pv 1) pe_str (nomark _))
        (pss_one (ps_ret (pe_callG d_body_signs.ok (hr.mono (by omega)) hG (by rfl) d_body_signs.g d_body_signs.kp d_body_signs.b .nil pass0 (pa_cons (pe_ix (r := rIxT K) ix_tup (pv 0) pe_int (fun _ _ => rfl)) pa_nil))))
        pss_nil)
      (pss_cons (ps_set (i := 2) scS2.nd rfl (Or.inl rfl) (pe_ifExp (pt_cmpR op_eq (pv 1) pe_str (nomark _)) (pe_lst (pa_cons pe_str pa_nil)) (pe_lst (pa_cons pe_str (pa_cons (pe_ix (r := rIxT K) ix_tup (pv 0) pe_int (fun _ _ => rfl)) (pa_cons pe_str (pa_cons (pe_ix (r := rIxT K) ix_tup (pv 0) pe_int (fun _ _ => rfl)) pa_nil)))))))
      (pss_cons (ps_if (PW.pt (pw_and (pt_cmpR op_eq (pv 1) pe_str (nomark _)) (pw_and1 (pt_cmpR op_notN (pe_ix (r := rIxT K) ix_tup (pv 0) pe_int (fun _ _ => rfl)) pe_non (nomark _)))))
        (pss_one (ps_set (i := 2) scS2.nd rfl (Or.inl rfl) (pe_op op_cat (pe_op op_cat (pv 2) (pe_lst (pa_cons pe_str (pa_cons (pe_op op_add_str (pe_op op_add_str (pe_ix (r := rIxT K) ix_tup (pv 0) pe_int (fun _ _ => rfl)) pe_str) (pe_ix (r := rIxT K) ix_tup (pe_ix (r := rIxT K) ix_tup (pv 0) pe_int (fun _ _ => rfl)) pe_int (fun _ _ => rfl))) (pa_cons pe_str pa_nil))))) (pe_callG d_value_signs.ok (hr.mono (by omega)) hG (by rfl) d_value_signs.g d_value_signs.kp d_value_signs.b .nil pass0 (pa_cons (pe_ix (r := rIxT K) ix_tup (pe_ix (r := rIxT K) ix_tup (pv 0) pe_int (fun _ _ => rfl)) pe_int (fun _ _ => rfl)) pa_nil)))))
        pss_nil)
      (pss_cons (ps_set (i := 2) scS2.nd rfl (Or.inl rfl) (pe_op op_cat (pe_op op_cat (pv 2) (pe_op op_rep (pe_lst (pa_cons pe_str pa_nil)) (pe_callTy call_int1 (by rfl) T.int (by decide +kernel) (pa_cons (pe_cmpR op_eq (pv 1) pe_str (nomark _)) pa_nil)))) (pe_lst (pa_cons (pe_ix (r := rIxT K) ix_tup (pv 0) (pe_un un_neg pe_int) (fun _ _ => rfl)) pa_nil))))
      (pss_one (ps_ret (pe_op op_cat (pv 2) (pe_ifExp (pt_cmpR (op_neD0 hr.units0) (pe_ix (r := rIxT K) ix_tup (pv 0) (pe_un un_neg pe_int) (fun _ _ => rfl)) pe_dnewK (nomark _)) (pe_callG d_body_signs.ok (hr.mono (by omega)) hG (by rfl) d_body_signs.g d_body_signs.kp d_body_signs.b .nil pass0 (pa_cons (pe_ix (r := rIxT K) ix_tup (pv 0) (pe_un un_neg pe_int) (fun _ _ => rfl)) pa_nil)) (pe_lst pa_nil)))))))))))))), ?_⟩
    rcases h with ⟨hv, hQ⟩ | ⟨t, pq, x, y, z, rfl, at', hq, hx, hy, hz, hQ⟩ | ⟨t, d, kvs, kb, rfl, ad, hkb, hsB, hQ, h⟩
    · rcases hv with ⟨t, rfl, h⟩ | ⟨t, pq, rfl, at', ⟨p, ws, rfl, ap, hl, hw⟩⟩
      · rcases h with ⟨x, at', hx⟩ | ⟨pq, at', ⟨p, ws, rfl, ap, hl, hw⟩⟩ | ⟨l, xs, at', al, hxl, hxs⟩
        · refine ⟨.ref t, rfl, t, _, 0, _, rfl, rfl, SqT.of at'.2, rfl, .str "lit", rfl, rfl, _, rfl, ?_⟩
          rw [show decide (V.str "lit" = V.str "lit") = true by decide +kernel]
          exact iteT ⟨.ref t, rfl, t, _, 1, _, rfl, rfl, SqT.of at'.2, rfl, x, rfl, hx, fun H' L zs s1 n1 h1 l1 g1 => hQ H' L zs s1 n1 h1 (by omega) g1⟩
        · refine ⟨.ref t, rfl, t, _, 0, _, rfl, rfl, SqT.of at'.2, rfl, .str "copy", rfl, rfl, _, rfl, ?_⟩
          rw [deq (by decide +kernel)]
          refine iteF ⟨.str "copy", rfl, by show 2 ≤ sizeLine; decide, fun tp ntp => ⟨tp, _, rfl, .inr (SqT.of upd_same), rfl, rfl, _, rfl, ?_⟩⟩
          rw [show (if false = true then !inV (.str "copy") [.str "copy", .str "path"] else inV (.str "copy") [.str "copy", .str "path"]) = true by decide +kernel]
          refine iteT ⟨⟨_, rfl⟩, .ref t, rfl, t, _, 1, _, rfl, rfl, SqT.of (same_new ntp _ _ at'.2), rfl, _, p, ws, rfl, rfl, .inr (SqT.of (same_new ntp _ _ ap.2)), join_len hl hw, by show 1 ≤ sizeLine; decide, fun p1 np1 => ?_⟩
          exact hQ _ p1 _ (Same.trans (same_new ntp) (same_new np1)) (old_none (same_new ntp) np1) upd_same (by show 1 ≤ 12; decide) (.cons (sg_join hl hw) .nil)
        · refine ⟨.ref t, rfl, t, _, 0, _, rfl, rfl, SqT.of at'.2, rfl, .str "sum", rfl, rfl, _, rfl, ?_⟩
          rw [deq (by decide +kernel)]
          refine iteF ⟨.str "sum", rfl, by show 2 ≤ sizeLine; decide, fun tp ntp => ⟨tp, _, rfl, .inr (SqT.of upd_same), rfl, rfl, _, rfl, ?_⟩⟩
          rw [show (if false = true then !inV (.str "sum") [.str "copy", .str "path"] else inV (.str "sum") [.str "copy", .str "path"]) = false by decide +kernel]
          refine iteF ⟨.str "sum", rfl, rfl, _, rfl, ?_⟩
          rw [deq (by decide +kernel)]
          refine iteF ⟨.str "sum", rfl, rfl, _, rfl, ?_⟩
          rw [show decide (V.str "sum" = V.str "sum") = true by decide +kernel]
          have s1 : Same H (upd H tp (.tup [.str "copy", .str "path"])) := same_new ntp
          generalize upd H tp (.tup [.str "copy", .str "path"]) = H1 at s1
          refine iteT ⟨Nat.zero_le _, fun L nL => ?_⟩
          have nL0 := old_none s1 nL
          have s2 := s1.trans (same_new (o := .lst []) nL)
          have g2 : (upd H1 L (.lst [])) L = some (.lst []) := upd_same
          generalize upd H1 L (.lst []) = H2 at s2 g2
          refine ⟨.ref t, rfl, t, _, 1, _, rfl, rfl, SqT.of (s2 _ _ at'.2), rfl, l, xs, rfl, SqL.of (s2 _ _ al.2), ?_⟩
          refine for_it (walk_enum (K := K) (a := l) (xs := xs)) (fun i σ Hi => ∃ (y3 y4 y5 y6 : Option V) (zs : List V), σ = [some (.ref t), some (.str "sum"), some (.ref L), y3, y4, y5, y6] ∧ Same H Hi ∧ Hi L = some (.lst zs) ∧ zs.length ≤ 4 * i ∧ SgL zs)
            ⟨none, none, none, none, [], rfl, s2, g2, Nat.le_refl _, .nil⟩ (fun i σ Hi _ hP => by obtain ⟨_, _, _, _, _, _, s, _⟩ := hP; exact SqL.of (s _ _ al.2)) (fun i x σ Hi Hi' hi hP hY => ?_) (fun σ Hi hP => ?_)
          · obtain ⟨y3, y4, y5, y6, zs, rfl, si, hL, hzl, hzq⟩ := hP
            obtain ⟨T2, x1, x2, rfl, nT, rfl, e1, e2⟩ := hY
            cases e1
            obtain ⟨u, n, pq, rfl, au, hN, hpq⟩ := hxs x2 (List.mem_of_getElem? e2)
            have sT := si.trans (same_new (o := .tup [.int (i : Nat), .ref u]) nT)
            have hLT := same_new (o := .tup [.int (i : Nat), .ref u]) nT _ _ hL
            refine ⟨T2, _, rfl, SqT.of upd_same, rfl, _, _, rfl, _, _, rfl, u, _, rfl, SqT.of (sT _ _ au.2), rfl, _, _, rfl, _, _, rfl, rfl, rfl, ?_⟩
            generalize upd Hi T2 (.tup [.int (i : Nat), .ref u]) = H3 at sT hLT
            -- the sign
            refine ⟨.ref L, rfl, .inl ⟨rfl, _, SqL.of hLT⟩, if_anyH (R := fun v H' => Same H3 H' ∧ ∃ p ws, v = .ref p ∧ H' p = some (.lst ws) ∧ ws.length ≤ 1 ∧ SgL ws) (fun Q' q' => ?_) (fun v H4 hv => ?_)⟩
            · refine ⟨.int n, rfl, n, 0, rfl, rfl, _, rfl, ite2 (fun _ => ⟨by show 1 ≤ sizeLine; decide, fun p np => q' _ _ ⟨same_new np, p, _, rfl, upd_same, Nat.le_refl _, .cons sg_minus .nil⟩⟩) (fun _ => ⟨by show 1 ≤ sizeLine; decide, fun p np => ⟨.int (i : Nat), rfl, (i : Nat), 0, rfl, rfl, .inr ⟨_, rfl, rep01 upd_same (by decide) fun p2 ws np2 hwl hwq => ?_⟩⟩⟩)⟩
              exact q' _ _ ⟨(same_new np).trans (same_new np2), p2, ws, rfl, upd_same, hwl, hwq (.cons sg_plus .nil)⟩
            obtain ⟨s4, p4, w4, rfl, g4, l4, q4⟩ := hv
            refine ⟨L, p4, zs, w4, rfl, rfl, s4 _ _ hLT, g4, big_le (by omega), ?_⟩
            have sm : ∀ {Ha : Hp} {us : List V}, Same H Ha → Same H (upd Ha L (.lst us)) := fun {Ha us} h a o e => by
              rw [upd_ne (fun e' => by rw [e', nL0] at e; cases e)]
              exact h a o e
            have s5 : Same H (upd H4 L (.lst (zs ++ w4))) := sm (sT.trans s4)
            have g5 : (upd H4 L (.lst (zs ++ w4))) L = some (.lst (zs ++ w4)) := upd_same
            have q5 : SgL (zs ++ w4) := hzq.app q4
            have l5 : (zs ++ w4).length ≤ 4 * i + 1 := by simp; omega
            generalize upd H4 L (.lst (zs ++ w4)) = H5 at s5 g5
            generalize zs ++ w4 = z5 at g5 q5 l5
            -- the factor
            have hlog : (if n < 0 then -n else n).natAbs.log2 < 1920 := log_le (by have := hN.2.2; split <;> omega)
            dsimp only
            refine asg_anyB (R := fun v H' => Same H5 H' ∧ ∃ p ws, v = .ref p ∧ H' p = some (.lst ws) ∧ ws.length ≤ 2 ∧ SgL ws) (fun Q' q' => ?_) (fun v H6 hv => ?_)
            · refine ⟨pq, rfl, rfl, _, rfl, ite2 (fun _ => ?_) (fun _ => ?_)⟩
              · refine ⟨.int n, rfl, n, rfl, _, rfl, hlog, by show 2 ≤ sizeLine; decide, fun p np => ⟨.int n, rfl, n, rfl, _, 1, rfl, rfl, .inr ⟨_, rfl, rep01 upd_same (by show 2 ≤ 2; decide) fun p2 ws np2 hwl hwq => ?_⟩⟩⟩
                exact q' _ _ ⟨(same_new np).trans (same_new np2), p2, ws, rfl, upd_same, hwl, hwq (.cons (sg_num hN) (.cons sg_times .nil))⟩
              · exact ⟨.int n, rfl, n, rfl, _, rfl, hlog, by show 1 ≤ sizeLine; decide, fun p np => q' _ _ ⟨same_new np, p, _, rfl, upd_same, by show 1 ≤ 2; decide, .cons (sg_num hN) .nil⟩⟩
            obtain ⟨s6, p6, w6, rfl, g6, l6, q6⟩ := hv
            -- the path
            have hL6 := s6 _ _ g5
            refine ⟨.ref L, rfl, .inl ⟨rfl, _, SqL.of hL6⟩, .ref p6, rfl, if_anyH (R := fun v H' => Same H6 H' ∧ ∃ p ws, v = .ref p ∧ H' p = some (.lst ws) ∧ ws.length ≤ 1 ∧ SgL ws) (fun Q' q' => ?_) (fun v H7 hv => ?_)⟩
            · refine ⟨pq, rfl, rfl, _, rfl, ite2 (fun e => ?_) (fun _ => ⟨Nat.zero_le _, fun p np => q' _ _ ⟨same_new np, p, _, rfl, upd_same, Nat.zero_le _, .nil⟩⟩)⟩
              rcases hpq with rfl | ⟨pp, ws, rfl, ap, hl, hw⟩
              · simp at e
              · exact ⟨⟨_, rfl⟩, .ref pp, rfl, _, pp, ws, rfl, rfl, .inr (SqT.of (s6 _ _ (s5 _ _ ap.2))), join_len hl hw, by show 1 ≤ sizeLine; decide, fun p np => q' _ _ ⟨same_new np, p, _, rfl, upd_same, Nat.le_refl _, .cons (sg_join hl hw) .nil⟩⟩
            obtain ⟨s7, p7, w7, rfl, g7, l7, q7⟩ := hv
            refine ⟨p6, p7, w6, w7, rfl, rfl, s7 _ _ g6, g7, big_le (by omega), fun pc npc => ⟨L, pc, z5, w6 ++ w7, rfl, rfl, same_new npc _ _ (s7 _ _ hL6), upd_same, big_le (by simp; omega), ?_⟩⟩
            exact ⟨_, _, _, _, z5 ++ (w6 ++ w7), rfl, sm (((s5.trans s6).trans s7).trans (same_new npc)), upd_same, by simp; omega, q5.app (q6.app q7)⟩
          · obtain ⟨_, _, _, _, zs, rfl, si, hL, hzl, hzq⟩ := hP
            exact ⟨.ref L, rfl, hQ Hi L zs si nL0 hL (by omega) hzq⟩
      · refine ⟨.ref t, rfl, t, _, 0, _, rfl, rfl, SqT.of at'.2, rfl, .str "path", rfl, rfl, _, rfl, ?_⟩
        rw [deq (by decide +kernel)]
        refine iteF ⟨.str "path", rfl, by show 2 ≤ sizeLine; decide, fun tp ntp => ⟨tp, _, rfl, .inr (SqT.of upd_same), rfl, rfl, _, rfl, ?_⟩⟩
        rw [show (if false = true then !inV (.str "path") [.str "copy", .str "path"] else inV (.str "path") [.str "copy", .str "path"]) = true by decide +kernel]
        refine iteT ⟨⟨_, rfl⟩, .ref t, rfl, t, _, 1, _, rfl, rfl, SqT.of (same_new ntp _ _ at'.2), rfl, _, p, ws, rfl, rfl, .inr (SqT.of (same_new ntp _ _ ap.2)), join_len hl hw, by show 1 ≤ sizeLine; decide, fun p1 np1 => ?_⟩
        exact hQ _ p1 _ (Same.trans (same_new ntp) (same_new np1)) (old_none (same_new ntp) np1) upd_same (by show 1 ≤ 12; decide) (.cons (sg_join hl hw) .nil)
    · obtain ⟨p, ws, rfl, ap, hl, hw⟩ := hq
      refine ⟨.ref t, rfl, t, _, 0, _, rfl, rfl, SqT.of at'.2, rfl, .str "if", rfl, rfl, _, rfl, ?_⟩
      rw [deq (by decide +kernel)]
      refine iteF ⟨.str "if", rfl, by show 2 ≤ sizeLine; decide, fun tp ntp => ⟨tp, _, rfl, .inr (SqT.of upd_same), rfl, rfl, _, rfl, ?_⟩⟩
      rw [show (if false = true then !inV (.str "if") [.str "copy", .str "path"] else inV (.str "if") [.str "copy", .str "path"]) = false by decide +kernel]
      refine iteF ⟨.str "if", rfl, rfl, _, rfl, ?_⟩
      rw [show decide (V.str "if" = V.str "if") = true by decide +kernel]
      have s1 : Same H (upd H tp (.tup [.str "copy", .str "path"])) := same_new ntp
      generalize upd H tp (.tup [.str "copy", .str "path"]) = H1 at s1
      have at1 := s1 _ _ at'.2
      refine iteT ⟨⟨_, rfl⟩, .ref t, rfl, t, _, 1, _, rfl, rfl, SqT.of at1, rfl, _, p, ws, rfl, rfl, .inr (SqT.of (s1 _ _ ap.2)), join_len hl hw, by show 3 ≤ sizeLine; decide, fun p1 np1 => ?_⟩
      have s2 := s1.trans (same_new (o := .lst [.str "if", .str (Txt.join "." ws), .str "="]) np1)
      have g1 : (upd H1 p1 (.lst [.str "if", .str (Txt.join "." ws), .str "="])) p1 = _ := upd_same
      generalize upd H1 p1 (.lst [.str "if", .str (Txt.join "." ws), .str "="]) = H2 at s2 g1
      refine ⟨.ref t, rfl, t, _, 2, _, rfl, rfl, SqT.of (s2 _ _ at'.2), rfl, x, rfl, hx, fun H3 L3 z3 s3 n3 h3 l3 q3 => ⟨p1, L3, _, z3, rfl, rfl, s3 _ _ g1, h3, big_le (by show 3 + z3.length ≤ _; omega), fun p4 np4 => ?_⟩⟩
      have s4 := (s2.trans s3).trans (same_new (o := .lst ([.str "if", .str (Txt.join "." ws), .str "="] ++ z3)) np4)
      have g4 : (upd H3 p4 (.lst ([.str "if", .str (Txt.join "." ws), .str "="] ++ z3))) p4 = _ := upd_same
      have q4 : SgL ([.str "if", .str (Txt.join "." ws), .str "="] ++ z3) := SgL.app (.cons (wd_key (by decide +kernel)) (.cons (sg_join hl hw) (.cons sg_eq .nil))) q3
      have l4 : ([V.str "if", V.str (Txt.join "." ws), V.str "="] ++ z3).length ≤ 5 := by simp; omega
      generalize [V.str "if", V.str (Txt.join "." ws), V.str "="] ++ z3 = z4 at s4 g4 q4 l4
      generalize upd H3 p4 (.lst z4) = H4 at s4 g4
      refine ⟨by show 1 ≤ sizeLine; decide, fun p5 np5 => ⟨p4, p5, z4, _, rfl, rfl, same_new np5 _ _ g4, upd_same, big_le (by show z4.length + 1 ≤ _; omega), fun p6 np6 => ?_⟩⟩
      have s6 := (s4.trans (same_new (o := .lst [.str "then"]) np5)).trans (same_new (o := .lst (z4 ++ [.str "then"])) np6)
      have g6 : (upd (upd H4 p5 (.lst [.str "then"])) p6 (.lst (z4 ++ [.str "then"]))) p6 = _ := upd_same
      have q6 : SgL (z4 ++ [.str "then"]) := q4.app (.cons (wd_key (by decide +kernel)) .nil)
      have l6 : (z4 ++ [V.str "then"]).length ≤ 6 := by simp; omega
      generalize z4 ++ [V.str "then"] = z6 at s6 g6 q6 l6
      generalize upd (upd H4 p5 (.lst [.str "then"])) p6 (.lst z6) = H6 at s6 g6
      refine ⟨.ref p6, rfl, .ref t, rfl, t, _, 3, _, rfl, rfl, SqT.of (s6 _ _ at'.2), rfl, hy H6 _ s6 fun H7 L7 z7 s7 n7 h7 l7 q7 => ?_⟩
      refine ⟨p6, L7, z6, z7, rfl, rfl, s7 _ _ g6, h7, big_le (by omega), fun p8 np8 => ⟨by show 1 ≤ sizeLine; decide, fun p9 np9 => ⟨p8, p9, _, _, rfl, rfl, same_new np9 _ _ upd_same, upd_same, big_le (by simp; omega), fun p10 np10 => ?_⟩⟩⟩
      have s10 := (((s6.trans s7).trans (same_new (o := .lst (z6 ++ z7)) np8)).trans (same_new (o := .lst [.str "else"]) np9)).trans (same_new (o := .lst (z6 ++ z7 ++ [.str "else"])) np10)
      have g10 : (upd (upd (upd H7 p8 (.lst (z6 ++ z7))) p9 (.lst [.str "else"])) p10 (.lst (z6 ++ z7 ++ [.str "else"]))) p10 = _ := upd_same
      have q10 : SgL (z6 ++ z7 ++ [.str "else"]) := (q6.app q7).app (.cons (wd_key (by decide +kernel)) .nil)
      have l10 : (z6 ++ z7 ++ [V.str "else"]).length ≤ 19 := by simp; omega
      generalize z6 ++ z7 ++ [V.str "else"] = z10 at s10 g10 q10 l10
      generalize upd (upd (upd H7 p8 (.lst (z6 ++ z7))) p9 (.lst [.str "else"])) p10 (.lst z10) = H10 at s10 g10
      refine ⟨.ref t, rfl, t, _, 4, _, rfl, rfl, SqT.of (s10 _ _ at'.2), rfl, hz H10 _ s10 fun H11 L11 z11 s11 n11 h11 l11 q11 => ?_⟩
      refine ⟨p10, L11, z10, z11, rfl, rfl, s11 _ _ g10, h11, big_le (by omega), fun p12 np12 => ?_⟩
      exact hQ _ p12 _ ((s10.trans s11).trans (same_new np12)) (old_none (s10.trans s11) np12) upd_same (by simp; omega) (q10.app q11)
    · -- not one of the four words
      rcases h with at' | ⟨nm, at', hnm⟩ | ⟨src, nm, wh, at', hsrc, hnm, hwh⟩
      · refine ⟨.ref t, rfl, t, _, 0, _, rfl, rfl, SqT.of at'.2, rfl, .str "body", rfl, rfl, _, rfl, ?_⟩
        rw [deq (by decide +kernel)]
        refine iteF ⟨.str "body", rfl, by show 2 ≤ sizeLine; decide, fun tp ntp => ⟨tp, _, rfl, .inr (SqT.of upd_same), rfl, rfl, _, rfl, ?_⟩⟩
        rw [show (if false = true then !inV (.str "body") [.str "copy", .str "path"] else inV (.str "body") [.str "copy", .str "path"]) = false by decide +kernel]
        refine iteF ⟨.str "body", rfl, rfl, _, rfl, ?_⟩
        rw [deq (by decide +kernel)]
        refine iteF ⟨.str "body", rfl, rfl, _, rfl, ?_⟩
        rw [deq (by decide +kernel)]
        refine iteF ⟨.str "body", rfl, rfl, _, rfl, ?_⟩
        rw [show decide (V.str "body" = V.str "body") = true by decide +kernel]
        have s1 : Same H (upd H tp (.tup [.str "copy", .str "path"])) := same_new ntp
        generalize upd H tp (.tup [.str "copy", .str "path"]) = H1 at s1
        exact iteT ⟨.ref t, rfl, t, _, 1, _, rfl, rfl, SqT.of (s1 _ _ at'.2), rfl, hsB H1 _ s1 fun H2 L zs s2 n2 h2 l2 q2 => hQ H2 L zs (s1.trans s2) (old_none s1 n2) h2 (by omega) q2⟩
      · refine ⟨.ref t, rfl, t, _, 0, _, rfl, rfl, SqT.of at'.2, rfl, .str "new", rfl, rfl, _, rfl, ?_⟩
        rw [deq (by decide +kernel)]
        refine iteF ⟨.str "new", rfl, by show 2 ≤ sizeLine; decide, fun tp ntp => ⟨tp, _, rfl, .inr (SqT.of upd_same), rfl, rfl, _, rfl, ?_⟩⟩
        rw [show (if false = true then !inV (.str "new") [.str "copy", .str "path"] else inV (.str "new") [.str "copy", .str "path"]) = false by decide +kernel]
        refine iteF ⟨.str "new", rfl, rfl, _, rfl, ?_⟩
        rw [deq (by decide +kernel)]
        refine iteF ⟨.str "new", rfl, rfl, _, rfl, ?_⟩
        rw [deq (by decide +kernel)]
        refine iteF ⟨.str "new", rfl, rfl, _, rfl, ?_⟩
        rw [deq (by decide +kernel)]
        have s1 : Same H (upd H tp (.tup [.str "copy", .str "path"])) := same_new ntp
        generalize upd H tp (.tup [.str "copy", .str "path"]) = H1 at s1
        refine iteF ⟨.str "new", rfl, rfl, _, rfl, ?_⟩
        rw [show decide (V.str "new" = V.str "new") = true by decide +kernel]
        refine iteT ⟨by show 1 ≤ sizeLine; decide, fun p1 np1 => ?_⟩
        have s2 := s1.trans (same_new (o := .lst [.str "new"]) np1)
        have g2 : (upd H1 p1 (.lst [.str "new"])) p1 = _ := upd_same
        generalize upd H1 p1 (.lst [.str "new"]) = H2 at s2 g2
        refine ⟨.str "new", rfl, rfl, _, rfl, ?_⟩
        rw [deq (by decide +kernel)]
        have q2 : SgL [V.str "new"] := .cons (wd_key (by decide +kernel)) .nil
        have l2 : [V.str "new"].length ≤ 19 := by decide
        generalize [V.str "new"] = z2 at g2 q2 l2
        refine iteF ?_
        obtain ⟨F2, eF⟩ : ∃ F2, F2 = p1 := ⟨p1, rfl⟩
        rw [← eF] at g2 ⊢
        refine ⟨.ref F2, rfl, by show 1 ≤ sizeLine; decide, fun p3 np3 => ⟨.str "new", rfl, rfl, .inr ⟨_, rfl, ?_⟩⟩⟩
        rw [deq (by decide +kernel)]
        refine ⟨p3, _, [.str "give"], rfl, rfl, upd_same, by decide, by decide, by decide, fun p4 np4 => ?_⟩
        rw [show (List.replicate (if false = true then (1 : Int) else 0).toNat [V.str "give"]).flatten = [] from rfl]
        have s4 := (s2.trans (same_new (o := .lst [.str "give"]) np3)).trans (same_new (o := .lst ([] : List V)) np4)
        have g4 : (upd (upd H2 p3 (.lst [.str "give"])) p4 (.lst ([] : List V))) p4 = some (.lst ([] : List V)) := upd_same
        have f4 := same_new (o := .lst ([] : List V)) np4 _ _ (same_new (o := .lst [.str "give"]) np3 _ _ g2)
        generalize upd (upd H2 p3 (.lst [.str "give"])) p4 (.lst ([] : List V)) = H4 at s4 g4 f4
        have qr : SgL ([] : List V) := .nil
        have lr : (([] : List V)).length ≤ 1 := by decide
        obtain ⟨zr, ezr⟩ : ∃ zr : List V, zr = [] := ⟨_, rfl⟩
        rw [← ezr] at g4 qr lr
        refine ⟨F2, p4, z2, zr, rfl, rfl, f4, g4, big_le (by omega), fun p5 np5 => ?_⟩
        have s5 := s4.trans (same_new (o := .lst (z2 ++ zr)) np5)
        have g5 : (upd H4 p5 (.lst (z2 ++ zr))) p5 = _ := upd_same
        generalize upd H4 p5 (.lst (z2 ++ zr)) = H5 at s5 g5
        refine ⟨.ref t, rfl, 2, rfl, t, _, -2, _, rfl, rfl, SqT.of (s5 _ _ at'.2), rfl, by show 1 ≤ sizeLine; decide, fun p6 np6 => ⟨p5, p6, _, _, rfl, rfl, same_new np6 _ _ g5, upd_same, big_le (by simp; omega), fun p7 np7 => ?_⟩⟩
        have s7 := (s5.trans (same_new (o := .lst [.str nm]) np6)).trans (same_new (o := .lst (z2 ++ zr ++ [.str nm])) np7)
        have g7 : (upd (upd H5 p6 (.lst [.str nm])) p7 (.lst (z2 ++ zr ++ [.str nm]))) p7 = _ := upd_same
        have q7 : SgL (z2 ++ zr ++ [.str nm]) := (q2.app qr).app (.cons (.wd hnm) .nil)
        have l7 : (z2 ++ zr ++ [V.str nm]).length ≤ 21 := by simp; omega
        generalize z2 ++ zr ++ [V.str nm] = z7 at s7 g7 q7 l7
        generalize upd (upd H5 p6 (.lst [.str nm])) p7 (.lst z7) = H7 at s7 g7
        refine ⟨.ref p7, rfl, ?_⟩
        refine ⟨.ref t, rfl, 1, rfl, t, _, -1, _, rfl, rfl, SqT.of (s7 _ _ at'.2), rfl, fun p8 np8 => ⟨d, p8, kvs, rfl, rfl, same_new np8 _ _ (s7 _ _ ad.2), upd_same, _, rfl, ?_⟩⟩
        have s8 := s7.trans (same_new (o := .dK []) np8)
        have g8 := same_new (o := .dK []) np8 _ _ g7
        generalize upd H7 p8 (.dK []) = H8 at s8 g8
        refine ite2 (fun _ => ?_) (fun _ => ?_)
        · refine ⟨.ref t, rfl, 1, rfl, t, _, -1, _, rfl, rfl, SqT.of (s8 _ _ at'.2), rfl, hsB H8 _ s8 fun H9 L9 z9 s9 n9 h9 l9 q9 => ⟨p7, L9, z7, z9, rfl, rfl, s9 _ _ g8, h9, big_le (by omega), fun p10 np10 => ?_⟩⟩
          exact hQ _ p10 _ ((s8.trans s9).trans (same_new np10)) (old_none (s8.trans s9) np10) upd_same (by simp; omega) (q7.app q9)
        · refine ⟨Nat.zero_le _, fun p9 np9 => ⟨p7, p9, z7, [], rfl, rfl, same_new np9 _ _ g8, upd_same, big_le (by show z7.length + 0 ≤ _; omega), fun p10 np10 => ?_⟩⟩
          exact hQ _ p10 _ ((s8.trans (same_new np9)).trans (same_new np10)) (old_none (s8.trans (same_new np9)) np10) upd_same (by simp; omega) (q7.app .nil)
      · refine ⟨.ref t, rfl, t, _, 0, _, rfl, rfl, SqT.of at'.2, rfl, .str "loop", rfl, rfl, _, rfl, ?_⟩
        rw [deq (by decide +kernel)]
        refine iteF ⟨.str "loop", rfl, by show 2 ≤ sizeLine; decide, fun tp ntp => ⟨tp, _, rfl, .inr (SqT.of upd_same), rfl, rfl, _, rfl, ?_⟩⟩
        rw [show (if false = true then !inV (.str "loop") [.str "copy", .str "path"] else inV (.str "loop") [.str "copy", .str "path"]) = false by decide +kernel]
        refine iteF ⟨.str "loop", rfl, rfl, _, rfl, ?_⟩
        rw [deq (by decide +kernel)]
        refine iteF ⟨.str "loop", rfl, rfl, _, rfl, ?_⟩
        rw [deq (by decide +kernel)]
        refine iteF ⟨.str "loop", rfl, rfl, _, rfl, ?_⟩
        rw [deq (by decide +kernel)]
        have s1 : Same H (upd H tp (.tup [.str "copy", .str "path"])) := same_new ntp
        generalize upd H tp (.tup [.str "copy", .str "path"]) = H1 at s1
        refine iteF ⟨.str "loop", rfl, rfl, _, rfl, ?_⟩
        rw [deq (by decide +kernel)]
        refine iteF ⟨.ref t, rfl, t, _, 1, _, rfl, rfl, SqT.of (s1 _ _ at'.2), rfl, .ref t, rfl, t, _, 2, _, rfl, rfl, SqT.of (s1 _ _ at'.2), rfl, by show 4 ≤ sizeLine; decide, fun p1 np1 => ?_⟩
        have s2 := s1.trans (same_new (o := .lst [.str "for", .str "it", .str "in", .str src]) np1)
        have g2 : (upd H1 p1 (.lst [.str "for", .str "it", .str "in", .str src])) p1 = _ := upd_same
        have q2 : SgL [V.str "for", V.str "it", V.str "in", V.str src] := .cons (wd_key (by decide +kernel)) (.cons (wd_key (by decide +kernel)) (.cons (wd_key (by decide +kernel)) (.cons (.wd hsrc) .nil)))
        have l2 : [V.str "for", V.str "it", V.str "in", V.str src].length ≤ 4 := Nat.le_refl _
        generalize upd H1 p1 (.lst [.str "for", .str "it", .str "in", .str src]) = H2 at s2 g2
        generalize [V.str "for", V.str "it", V.str "in", V.str src] = z1 at g2 q2 l2
        refine ⟨.str "loop", rfl, rfl, _, rfl, ?_⟩
        rw [show decide (V.str "loop" = V.str "loop") = true by decide +kernel]
        refine iteT ⟨.ref t, rfl, t, _, 3, _, rfl, rfl, SqT.of (s2 _ _ at'.2), rfl, rfl, _, rfl, ?_⟩
        rcases hwh with rfl | ⟨w', r', left, rfl, aw, hleft, hsA⟩
        · rw [show (!decide (V.non = V.non)) = false by decide +kernel]
          refine iteF ?_
          obtain ⟨F2, eF⟩ : ∃ F2, F2 = p1 := ⟨p1, rfl⟩
          obtain ⟨z2, ez⟩ : ∃ z2, z2 = z1 := ⟨z1, rfl⟩
          have l2 : z2.length ≤ 19 := by rw [ez]; omega
          rw [← ez] at g2 q2
          rw [← eF] at g2 ⊢
          refine ⟨.ref F2, rfl, by show 1 ≤ sizeLine; decide, fun p3 np3 => ⟨.str "loop", rfl, rfl, .inr ⟨_, rfl, ?_⟩⟩⟩
          rw [show decide (V.str "loop" = V.str "loop") = true by decide +kernel]
          refine ⟨p3, _, [.str "give"], rfl, rfl, upd_same, by decide, by decide, by decide, fun p4 np4 => ?_⟩
          rw [show (List.replicate (if true = true then (1 : Int) else 0).toNat [V.str "give"]).flatten = [V.str "give"] from rfl]
          have s4 := (s2.trans (same_new (o := .lst [.str "give"]) np3)).trans (same_new (o := .lst [V.str "give"]) np4)
          have g4 : (upd (upd H2 p3 (.lst [.str "give"])) p4 (.lst [V.str "give"])) p4 = some (.lst [V.str "give"]) := upd_same
          have f4 := same_new (o := .lst [V.str "give"]) np4 _ _ (same_new (o := .lst [.str "give"]) np3 _ _ g2)
          generalize upd (upd H2 p3 (.lst [.str "give"])) p4 (.lst [V.str "give"]) = H4 at s4 g4 f4
          have qr : SgL [V.str "give"] := .cons (wd_key (by decide +kernel)) .nil
          have lr : [V.str "give"].length ≤ 1 := by decide
          obtain ⟨zr, ezr⟩ : ∃ zr : List V, zr = [V.str "give"] := ⟨_, rfl⟩
          rw [← ezr] at g4 qr lr
          refine ⟨F2, p4, z2, zr, rfl, rfl, f4, g4, big_le (by omega), fun p5 np5 => ?_⟩
          have s5 := s4.trans (same_new (o := .lst (z2 ++ zr)) np5)
          have g5 : (upd H4 p5 (.lst (z2 ++ zr))) p5 = _ := upd_same
          generalize upd H4 p5 (.lst (z2 ++ zr)) = H5 at s5 g5
          refine ⟨.ref t, rfl, 2, rfl, t, _, -2, _, rfl, rfl, SqT.of (s5 _ _ at'.2), rfl, by show 1 ≤ sizeLine; decide, fun p6 np6 => ⟨p5, p6, _, _, rfl, rfl, same_new np6 _ _ g5, upd_same, big_le (by simp; omega), fun p7 np7 => ?_⟩⟩
          have s7 := (s5.trans (same_new (o := .lst [.str nm]) np6)).trans (same_new (o := .lst (z2 ++ zr ++ [.str nm])) np7)
          have g7 : (upd (upd H5 p6 (.lst [.str nm])) p7 (.lst (z2 ++ zr ++ [.str nm]))) p7 = _ := upd_same
          have q7 : SgL (z2 ++ zr ++ [.str nm]) := (q2.app qr).app (.cons (.wd hnm) .nil)
          have l7 : (z2 ++ zr ++ [V.str nm]).length ≤ 21 := by simp; omega
          generalize z2 ++ zr ++ [V.str nm] = z7 at s7 g7 q7 l7
          generalize upd (upd H5 p6 (.lst [.str nm])) p7 (.lst z7) = H7 at s7 g7
          refine ⟨.ref p7, rfl, ?_⟩
          refine ⟨.ref t, rfl, 1, rfl, t, _, -1, _, rfl, rfl, SqT.of (s7 _ _ at'.2), rfl, fun p8 np8 => ⟨d, p8, kvs, rfl, rfl, same_new np8 _ _ (s7 _ _ ad.2), upd_same, _, rfl, ?_⟩⟩
          have s8 := s7.trans (same_new (o := .dK []) np8)
          have g8 := same_new (o := .dK []) np8 _ _ g7
          generalize upd H7 p8 (.dK []) = H8 at s8 g8
          refine ite2 (fun _ => ?_) (fun _ => ?_)
          · refine ⟨.ref t, rfl, 1, rfl, t, _, -1, _, rfl, rfl, SqT.of (s8 _ _ at'.2), rfl, hsB H8 _ s8 fun H9 L9 z9 s9 n9 h9 l9 q9 => ⟨p7, L9, z7, z9, rfl, rfl, s9 _ _ g8, h9, big_le (by omega), fun p10 np10 => ?_⟩⟩
            exact hQ _ p10 _ ((s8.trans s9).trans (same_new np10)) (old_none (s8.trans s9) np10) upd_same (by simp; omega) (q7.app q9)
          · refine ⟨Nat.zero_le _, fun p9 np9 => ⟨p7, p9, z7, [], rfl, rfl, same_new np9 _ _ g8, upd_same, big_le (by show z7.length + 0 ≤ _; omega), fun p10 np10 => ?_⟩⟩
            exact hQ _ p10 _ ((s8.trans (same_new np9)).trans (same_new np10)) (old_none (s8.trans (same_new np9)) np10) upd_same (by simp; omega) (q7.app .nil)
        · rw [show (!decide (V.ref w' = V.non)) = true by simp]
          have hleft8 : left.length ≤ 8 := hl_of hleft.2.2
          have hit : ("it" ++ "." : Str).length = 3 := by decide +kernel
          refine iteT ⟨.ref p1, rfl, .ref t, rfl, t, _, 1, _, rfl, rfl, SqT.of (s2 _ _ at'.2), rfl, _, _, rfl, rfl, ?_, .ref t, rfl, t, _, 3, _, rfl, rfl, SqT.of (s2 _ _ at'.2), rfl, w', _, 0, _, rfl, rfl, SqT.of (s2 _ _ aw.2), rfl, _, _, rfl, rfl, ?_, by show 3 ≤ sizeLine; decide, fun p3 np3 => ⟨p1, p3, z1, _, rfl, rfl, same_new np3 _ _ g2, upd_same, big_le (by show z1.length + 3 ≤ _; omega), fun p4 np4 => ?_⟩⟩
          · decide +kernel
          · exact big_le (by omega)
          have sB3 := (s2.trans (same_new (o := .lst [.str "where", .str ("it" ++ "." ++ left), .str "="]) np3)).trans (same_new (o := .lst (z1 ++ [.str "where", .str ("it" ++ "." ++ left), .str "="])) np4)
          have gB3 : (upd (upd H2 p3 (.lst [.str "where", .str ("it" ++ "." ++ left), .str "="])) p4 (.lst (z1 ++ [.str "where", .str ("it" ++ "." ++ left), .str "="]))) p4 = _ := upd_same
          have qB3 : SgL (z1 ++ [.str "where", .str ("it" ++ "." ++ left), .str "="]) := q2.app (.cons (wd_key (by decide +kernel)) (.cons (sg_dot wdIt hleft) (.cons sg_eq .nil)))
          have lB3 : (z1 ++ [V.str "where", V.str ("it" ++ "." ++ left), V.str "="]).length ≤ 7 := by simp; omega
          generalize upd (upd H2 p3 (.lst [.str "where", .str ("it" ++ "." ++ left), .str "="])) p4 (.lst (z1 ++ [.str "where", .str ("it" ++ "." ++ left), .str "="])) = H3 at sB3 gB3
          generalize z1 ++ [V.str "where", V.str ("it" ++ "." ++ left), V.str "="] = z3 at gB3 qB3 lB3
          refine ⟨.ref t, rfl, t, _, 3, _, rfl, rfl, SqT.of (sB3 _ _ at'.2), rfl, w', _, 1, _, rfl, rfl, SqT.of (sB3 _ _ aw.2), rfl, hsA H3 _ sB3 fun H5 L5 z5 s5 n5 h5 l5 q5 => ⟨p4, L5, z3, z5, rfl, rfl, s5 _ _ gB3, h5, big_le (by omega), fun F2 nF2 => ?_⟩⟩
          have s2 := (sB3.trans s5).trans (same_new (o := .lst (z3 ++ z5)) nF2)
          have g2 : (upd H5 F2 (.lst (z3 ++ z5))) F2 = _ := upd_same
          have q2 : SgL (z3 ++ z5) := qB3.app q5
          have l2 : (z3 ++ z5).length ≤ 19 := by simp; omega
          generalize upd H5 F2 (.lst (z3 ++ z5)) = H2' at s2 g2
          generalize z3 ++ z5 = z2 at g2 q2 l2
          refine ⟨.ref F2, rfl, by show 1 ≤ sizeLine; decide, fun p3 np3 => ⟨.str "loop", rfl, rfl, .inr ⟨_, rfl, ?_⟩⟩⟩
          rw [show decide (V.str "loop" = V.str "loop") = true by decide +kernel]
          refine ⟨p3, _, [.str "give"], rfl, rfl, upd_same, by decide, by decide, by decide, fun p4 np4 => ?_⟩
          rw [show (List.replicate (if true = true then (1 : Int) else 0).toNat [V.str "give"]).flatten = [V.str "give"] from rfl]
          have s4 := (s2.trans (same_new (o := .lst [.str "give"]) np3)).trans (same_new (o := .lst [V.str "give"]) np4)
          have g4 : (upd (upd H2' p3 (.lst [.str "give"])) p4 (.lst [V.str "give"])) p4 = some (.lst [V.str "give"]) := upd_same
          have f4 := same_new (o := .lst [V.str "give"]) np4 _ _ (same_new (o := .lst [.str "give"]) np3 _ _ g2)
          generalize upd (upd H2' p3 (.lst [.str "give"])) p4 (.lst [V.str "give"]) = H4 at s4 g4 f4
          have qr : SgL [V.str "give"] := .cons (wd_key (by decide +kernel)) .nil
          have lr : [V.str "give"].length ≤ 1 := by decide
          obtain ⟨zr, ezr⟩ : ∃ zr : List V, zr = [V.str "give"] := ⟨_, rfl⟩
          rw [← ezr] at g4 qr lr
          refine ⟨F2, p4, z2, zr, rfl, rfl, f4, g4, big_le (by omega), fun p5 np5 => ?_⟩
          have s5 := s4.trans (same_new (o := .lst (z2 ++ zr)) np5)
          have g5 : (upd H4 p5 (.lst (z2 ++ zr))) p5 = _ := upd_same
          generalize upd H4 p5 (.lst (z2 ++ zr)) = H5 at s5 g5
          refine ⟨.ref t, rfl, 2, rfl, t, _, -2, _, rfl, rfl, SqT.of (s5 _ _ at'.2), rfl, by show 1 ≤ sizeLine; decide, fun p6 np6 => ⟨p5, p6, _, _, rfl, rfl, same_new np6 _ _ g5, upd_same, big_le (by simp; omega), fun p7 np7 => ?_⟩⟩
          have s7 := (s5.trans (same_new (o := .lst [.str nm]) np6)).trans (same_new (o := .lst (z2 ++ zr ++ [.str nm])) np7)
          have g7 : (upd (upd H5 p6 (.lst [.str nm])) p7 (.lst (z2 ++ zr ++ [.str nm]))) p7 = _ := upd_same
          have q7 : SgL (z2 ++ zr ++ [.str nm]) := (q2.app qr).app (.cons (.wd hnm) .nil)
          have l7 : (z2 ++ zr ++ [V.str nm]).length ≤ 21 := by simp; omega
          generalize z2 ++ zr ++ [V.str nm] = z7 at s7 g7 q7 l7
          generalize upd (upd H5 p6 (.lst [.str nm])) p7 (.lst z7) = H7 at s7 g7
          refine ⟨.ref p7, rfl, ?_⟩
          refine ⟨.ref t, rfl, 1, rfl, t, _, -1, _, rfl, rfl, SqT.of (s7 _ _ at'.2), rfl, fun p8 np8 => ⟨d, p8, kvs, rfl, rfl, same_new np8 _ _ (s7 _ _ ad.2), upd_same, _, rfl, ?_⟩⟩
          have s8 := s7.trans (same_new (o := .dK []) np8)
          have g8 := same_new (o := .dK []) np8 _ _ g7
          generalize upd H7 p8 (.dK []) = H8 at s8 g8
          refine ite2 (fun _ => ?_) (fun _ => ?_)
          · refine ⟨.ref t, rfl, 1, rfl, t, _, -1, _, rfl, rfl, SqT.of (s8 _ _ at'.2), rfl, hsB H8 _ s8 fun H9 L9 z9 s9 n9 h9 l9 q9 => ⟨p7, L9, z7, z9, rfl, rfl, s9 _ _ g8, h9, big_le (by omega), fun p10 np10 => ?_⟩⟩
            exact hQ _ p10 _ ((s8.trans s9).trans (same_new np10)) (old_none (s8.trans s9) np10) upd_same (by simp; omega) (q7.app q9)
          · refine ⟨Nat.zero_le _, fun p9 np9 => ⟨p7, p9, z7, [], rfl, rfl, same_new np9 _ _ g8, upd_same, big_le (by show z7.length + 0 ≤ _; omega), fun p10 np10 => ?_⟩⟩
            exact hQ _ p10 _ ((s8.trans (same_new np9)).trans (same_new np10)) (old_none (s8.trans (same_new np9)) np10) upd_same (by simp; omega) (q7.app .nil)
end
end M02

set_option Elab.async false
set_option linter.all false
set_option maxRecDepth 100000
set_option maxHeartbeats 4000000
/-! signs of bodies: _law_body_signs -/
namespace M02
open PySem PySem.Spec PyProof.Rows L2 GL GT
theorem scS3 : FnScope ["_law_body_here", "_law_found", "_law_field", "_law_value_here", "_law_is_declared"] ["_law_body_here"] (defScope sBSig) := ⟨rfl, rfl, rfl, by decide +kernel, rfl, by decide +kernel, by decide +kernel⟩
/-- how many signs a value has at most -/
def szv : Nat → Nat
  | 0 => 31
  | n + 1 => 35 + 4 * szv n
theorem szv_le {n : Nat} (h : n ≤ 3) : szv n ≤ 3000 := by
  match n, h with
  | 0, _ => decide
  | 1, _ => decide
  | 2, _ => decide
  | 3, _ => decide
def spVS (n : Nat) : Sp := fun vs H Q _ => ∃ (b : Addr) (N : Addr → Prop) (v : V), vs = [v] ∧ VV b N H n v ∧ Sgs H (szv n) Q
def spBS (n : Nat) : Sp := fun vs H Q _ => ∃ (b D : Addr) (N : Addr → Prop) (kvs : List (Key × V)) (c : Nat), vs = [.ref D] ∧ At b H D (.dK kvs) ∧ kvs.length ≤ c ∧ c ≤ 6 ∧ n ≤ 3 ∧ (∀ p ∈ kvs, ∃ z : Str, p.1 = .inr z ∧ Wd z ∧ (EV b (fun a => N a ∧ a ≠ D) H n p.2 ∨ VV b (fun a => N a ∧ a ≠ D) H n p.2)) ∧ Sgs H (2 + c * (3 + szv n)) Q
theorem BD.bs {b D : Addr} {N : Addr → Prop} {H : Hp} {n : Nat} (h : BD b N H n D) : ∃ kvs : List (Key × V), At b H D (.dK kvs) ∧ kvs.length ≤ 4 ∧ ∀ p ∈ kvs, ∃ z : Str, p.1 = .inr z ∧ Wd z ∧ (EV b (fun a => N a ∧ a ≠ D) H n p.2 ∨ VV b (fun a => N a ∧ a ≠ D) H n p.2) := by
  obtain ⟨m, hm, ⟨kvs, a, hn, hl, hk⟩, hmin⟩ := h.least
  refine ⟨kvs, a, hl, fun p hp => ?_⟩
  obtain ⟨z, e, hz, hv⟩ := hk p hp
  exact ⟨z, e, hz, .inr ((hv.avoid hmin).up hm)⟩
theorem VV.head {b : Addr} {N : Addr → Prop} {H : Hp} : ∀ {n : Nat} {v : V}, VV b N H n v → ∃ (t : Addr) (w : Str) (r : List V), v = .ref t ∧ At b H t (.tup (.str w :: r)) := by
  have h0 : ∀ {v : V}, VV0 b H v → ∃ (t : Addr) (w : Str) (r : List V), v = .ref t ∧ At b H t (.tup (.str w :: r)) := by
    rintro v (⟨t, e, ⟨x, a, _⟩ | ⟨q, a, _⟩ | ⟨l, xs, a, _⟩⟩ | ⟨t, q, x, y, z, e, a, _⟩)
    · exact ⟨t, _, _, e, a⟩
    · exact ⟨t, _, _, e, a⟩
    · exact ⟨t, _, _, e, a⟩
    · exact ⟨t, _, _, e, a⟩
  intro n v h
  cases n with
  | zero => exact h0 h
  | succ n =>
    rcases h with h | ⟨t, d, kvs, e, _, _, _, _, a | ⟨nm, a, _⟩ | ⟨src, nm, wh, a, _⟩⟩
    · exact h0 h
    · exact ⟨t, _, _, e, a⟩
    · exact ⟨t, _, _, e, a⟩
    · exact ⟨t, _, _, e, a⟩
theorem asg_and {ta tb : TE} {g : TG} {u : TS} {D : Ends} {σ : L2.St} {H : Hp} (h : ∀ Q' : VK, Q' (.bl false) H → tAndV ta tb σ H Q') (q : g (.bl false) σ H fun σ' H' => u D σ' H') : tSeq (tAsg (tAndV ta tb) g) u D σ H := h _ q
theorem atI0 {x : V} {r : List V} : atI (x :: r) 0 = some x := by
  unfold atI ixN
  simp
theorem kSB : kitB "str" "bool" = some false := by decide +kernel
theorem kBB : kitB "bool" "bool" = some true := by decide +kernel
theorem sg_colon : SgOk ":" := sg_one (c := 58) (by decide +kernel) (by decide +kernel)
theorem sg_open : SgOk "{" := sg_one (c := 123) (by decide +kernel) (by decide +kernel)
theorem sg_close : SgOk "}" := sg_one (c := 125) (by decide +kernel) (by decide +kernel)
section
variable {P : Program} {w : World} {K : PySem.W.Frag} {mg : Str → Option Value} {base : Heap}
theorem ok_bs {f : Addr} {fd : FuncData} {k n : Nat} (F : Fun K "_law_body_signs" "_law_body_signs" sBSig f fd) (T : Bl K mg) (d_value_signs : DnG P w K mg base "_law_value_signs" k ["_law_value_here"] (spVS n)) : FnG P w K mg base CX0 (k + 1) f fd ["_law_body_here"] (spBS n) := by
  refine okG0 F scS3 (fun vs H Q E h => ?_) (fun cdv A outer s H vs Q E hr hG h => ?_)
  · obtain ⟨_, _, _, _, _, rfl, _⟩ := h
    rfl
  · obtain ⟨b, D, N, kvs, c, rfl, aD, hkl, hc6, hn3, hkv, hQ⟩ := h
    refine ⟨_, (pss_cons (ps_set (i := 1) scS3.nd rfl (Or.inl rfl) (pe_lst (pa_cons pe_str pa_nil)))
      (pss_cons (ps_lock (ps_for PassesOwn.never rfl (pi_items (pv 0)) (pg_tup rfl (pgs_cons (pg_name (i := 2) scS3.nd rfl (Or.inl rfl)) (pgs_cons (pg_name (i := 3) scS3.nd rfl (Or.inl rfl)) pgs_nil)))
        (pss_cons (ps_set (i := 4) scS3.nd rfl (Or.inl rfl) (pe_and (pe_cmpR op_eq (pe_callB call_len_seq (by rfl) T.len (by decide +kernel) (pa_cons (pv 3) pa_nil)) pe_int (nomark _)) (pe_one (pe_callB call_isi (by rfl) T.isinstance (by decide +kernel) (pa_cons (pe_ix (r := rIxT K) ix_tup (pv 3) pe_int (fun _ _ => rfl)) (pa_cons (pe_bltn (v := .ty "bool") (by rfl) T.bool (by decide +kernel) rfl) pa_nil))))))
        (pss_cons (ps_expr (pe_bm PySem.F.plainAttrs_list PySem.F.slot_list_extend PySem.F.type_list_extend mt_extend (pv 1) (pa_cons (pe_op op_cat (pe_op op_rep (pe_lst (pa_cons pe_str pa_nil)) (pe_callTy call_int1 (by rfl) T.int (by decide +kernel) (pa_cons (pe_and (pv 4) (pe_one (pe_ix (r := rIxT K) ix_tup (pv 3) pe_int (fun _ _ => rfl)))) pa_nil))) (pe_lst (pa_cons (pv 2) (pa_cons pe_str pa_nil)))) pa_nil)))
        (pss_one (ps_expr (pe_bm PySem.F.plainAttrs_list PySem.F.slot_list_extend PySem.F.type_list_extend mt_extend (pv 1) (pa_cons (pe_callG d_value_signs.ok (hr.mono (by omega)) hG (by rfl) d_value_signs.g d_value_signs.kp d_value_signs.b .nil pass0 (pa_cons (pe_ifExp (pt_val (pv 4)) (pe_ix (r := rIxT K) ix_tup (pv 3) pe_int (fun _ _ => rfl)) (pv 3)) pa_nil)) pa_nil))))))))
      (pss_one (ps_ret (pe_op op_cat (pv 1) (pe_lst (pa_cons pe_str pa_nil))))))), ?_⟩
    have hsz := szv_le hn3
    refine ⟨by show 1 ≤ sizeLine; decide, fun L nL => ?_⟩
    have LD := aD.ne nL
    have hD1 := same_new (o := .lst [.str "{"]) nL _ _ aD.2
    refine ⟨D, .dK kvs, hD1, trivial, fun od => ⟨.ref D, rfl, D, od, kvs, rfl, upd_same, ?_⟩⟩
    have kp0 : ∀ a o, a ≠ D → H a = some o → (upd (upd H L (.lst [.str "{"])) D (.frz od (.dK kvs))) a = some o := fun a o na h => by
      rw [upd_ne na]
      exact same_new nL _ _ h
    have hL0 : (upd (upd H L (.lst [.str "{"])) D (.frz od (.dK kvs))) L = some (.lst [.str "{"]) := by rw [upd_ne LD.symm]; exact upd_same
    have hDf : (upd (upd H L (.lst [.str "{"])) D (.frz od (.dK kvs))) D = some (.frz od (.dK kvs)) := upd_same
    generalize upd (upd H L (.lst [.str "{"])) D (.frz od (.dK kvs)) = H0 at kp0 hL0 hDf
    refine for_it (walk_items (kvs := kvs)) (fun i σ Hi => ∃ (y2 y3 y4 : Option V) (zs : List V), σ = [some (.ref D), some (.ref L), y2, y3, y4] ∧ (∀ a o, a ≠ D → H a = some o → Hi a = some o) ∧ Hi D = some (.frz od (.dK kvs)) ∧ Hi L = some (.lst zs) ∧ zs.length ≤ 1 + i * (3 + szv n) ∧ SgL zs)
      ⟨none, none, none, _, rfl, kp0, hDf, hL0, by show 1 ≤ _; omega, .cons sg_open .nil⟩ (fun i σ Hi _ hP => by obtain ⟨_, _, _, _, _, _, h, _⟩ := hP; exact h) (fun i x σ Hi Hi' hi hP hY => ?_) (fun σ Hi hP => ?_)
    · obtain ⟨y2, y3, y4, zs, rfl, hkp, hDi, hL, hzl, hzq⟩ := hP
      obtain ⟨Tp, x1, x2, rfl, nT, rfl, e1, e2⟩ := hY
      obtain ⟨⟨ky, v⟩, hkv2⟩ : ∃ p, kvs[i]? = some p := ⟨_, List.getElem?_eq_getElem hi⟩
      have e1 : (kvs[i]?.map fun kv => kV kv.1) = some x1 := e1
      have e2 : (kvs[i]?.map Prod.snd) = some x2 := e2
      rw [hkv2] at e1 e2
      cases e1
      cases e2
      obtain ⟨z, ez, hz, hev⟩ := hkv _ (List.mem_of_getElem? hkv2)
      have ez : ky = .inr z := ez
      subst ez
      have hev : EV b (fun a => N a ∧ a ≠ D) H n v ∨ VV b (fun a => N a ∧ a ≠ D) H n v := hev
      have hmul : (i + 1) * (3 + szv n) = i * (3 + szv n) + (3 + szv n) := Nat.succ_mul _ _
      have hmu2 : i * (3 + szv n) ≤ 6 * (3 + szv n) := Nat.mul_le_mul_right _ (by omega)
      have sT : Same Hi (upd Hi Tp (.tup [kV (.inr z), v])) := same_new nT
      refine ⟨Tp, _, rfl, SqT.of upd_same, rfl, _, _, rfl, _, _, rfl, rfl, ?_⟩
      generalize upd Hi Tp (.tup [kV (.inr z), v]) = H1 at sT
      -- what holds while the dict is locked
      have tup : ∀ {Hx : Hp} {a : Addr} {ws : List V}, Same Hi Hx → At b H a (.tup ws) → Hx a = some (.tup ws) := fun {Hx a ws} h ha => h _ _ (hkp a _ (fun e => by have := ha.2; rw [e, aD.2] at this; cases this) ha.2)
      have val : ∀ {Hx : Hp} {y : V}, Same Hi Hx → VV b (fun a => N a ∧ a ≠ D) H n y → VV b (fun a => N a ∧ a ≠ D) Hx n y := fun {Hx y} h hv => hv.tr (fun _ h => h) ⟨fun a ws na => ⟨fun e => h _ _ (hkp a _ (fun e' => by rw [e', aD.2] at e; cases e) e), fun e => h _ _ (hkp a _ (fun e' => by rw [e', aD.2] at e; cases e) e)⟩, fun a ks hN _ e => h _ _ (hkp a _ hN.2 e)⟩
      have hL1 := sT _ _ hL
      -- the end of a turn
      have fin : ∀ {Ha : Hp} {us : List V}, Same Hi Ha → (∀ a o, a ≠ D → H a = some o → (upd Ha L (.lst us)) a = some o) ∧ (upd Ha L (.lst us)) D = some (.frz od (.dK kvs)) := fun {Ha us} h => ⟨fun a o na e => by
        rw [upd_ne (fun e' => by rw [e', nL] at e; cases e)]
        exact h _ _ (hkp a o na e), by rw [upd_ne LD]; exact h _ _ hDi⟩
      rcases hev with hev | hev
      · obtain ⟨t, kb, x, rfl, at', hx⟩ := hev
        refine ⟨.ref t, rfl, t, _, rfl, .inr (SqT.of (tup sT at')), rfl, true, rfl, iteT ⟨.ref t, rfl, t, _, 0, _, rfl, rfl, SqT.of (tup sT at'), rfl, .bl kb, .ty "bool", _, _, true, rfl, .ty "bool", .base (.bl kb), kit_ty kBB, ?_⟩⟩
        -- let, the field
        refine ⟨.ref L, rfl, .inl ⟨rfl, _, SqL.of hL1⟩, by show 1 ≤ sizeLine; decide, fun p1 np1 => ⟨.bl true, rfl, true, rfl, iteT ⟨.ref t, rfl, t, _, 0, _, rfl, rfl, SqT.of (tup (sT.trans (same_new np1)) at'), rfl, .inr ⟨kb, rfl, rep01 upd_same (by show 1 ≤ 2; decide) fun p2 ws np2 hwl hwq => ?_⟩⟩⟩⟩
        have s2 := (sT.trans (same_new (o := .lst [.str "let"]) np1)).trans (same_new (o := .lst ws) np2)
        have g2 : (upd (upd H1 p1 (.lst [.str "let"])) p2 (.lst ws)) p2 = _ := upd_same
        generalize upd (upd H1 p1 (.lst [.str "let"])) p2 (.lst ws) = H2 at s2 g2
        have qw := hwq (.cons (wd_key (by decide +kernel)) .nil)
        have lw : ws.length ≤ 1 := hwl
        refine ⟨.str z, rfl, by show 2 ≤ sizeLine; decide, fun p3 np3 => ⟨p2, p3, ws, _, rfl, rfl, same_new np3 _ _ g2, upd_same, big_le (by show ws.length + 2 ≤ _; omega), fun p4 np4 => ?_⟩⟩
        have s4' := (s2.trans (same_new (o := .lst [.str z, .str ":"]) np3)).trans (same_new (o := .lst (ws ++ [.str z, .str ":"])) np4)
        have g4 : (upd (upd H2 p3 (.lst [.str z, .str ":"])) p4 (.lst (ws ++ [.str z, .str ":"]))) p4 = _ := upd_same
        have q4 : SgL (ws ++ [.str z, .str ":"]) := qw.app (.cons (.wd hz) (.cons sg_colon .nil))
        have l4 : (ws ++ [V.str z, V.str ":"]).length ≤ 3 := by simp; omega
        generalize upd (upd H2 p3 (.lst [.str z, .str ":"])) p4 (.lst (ws ++ [.str z, .str ":"])) = H4 at s4' g4
        generalize ws ++ [V.str z, V.str ":"] = w4 at g4 q4 l4
        refine ⟨L, p4, zs, w4, rfl, rfl, s4' _ _ hL, g4, big_le (by omega), ?_⟩
        obtain ⟨f1, f2⟩ := fin (us := zs ++ w4) s4'
        have g5 : (upd H4 L (.lst (zs ++ w4))) L = some (.lst (zs ++ w4)) := upd_same
        have q5 : SgL (zs ++ w4) := hzq.app q4
        have l5 : (zs ++ w4).length ≤ 1 + i * (3 + szv n) + 3 := by simp; omega
        generalize upd H4 L (.lst (zs ++ w4)) = H5 at f1 f2 g5
        generalize zs ++ w4 = z5 at g5 q5 l5
        -- the value
        have tup5 : ∀ {a : Addr} {us : List V}, At b H a (.tup us) → H5 a = some (.tup us) := fun {a us} ha => f1 a _ (fun e => by have := ha.2; rw [e, aD.2] at this; cases this) ha.2
        have val5 : ∀ {y : V}, VV b (fun a => N a ∧ a ≠ D) H n y → VV b (fun a => N a ∧ a ≠ D) H5 n y := fun {y} hv => hv.tr (fun _ h => h) ⟨fun a us na => ⟨fun e => f1 a _ (fun e' => by rw [e', aD.2] at e; cases e) e, fun e => f1 a _ (fun e' => by rw [e', aD.2] at e; cases e) e⟩, fun a ks hN _ e => f1 a _ hN.2 e⟩
        refine ⟨.ref L, rfl, .inl ⟨rfl, _, SqL.of g5⟩, .bl true, rfl, true, rfl, iteT ⟨.ref t, rfl, t, _, 1, _, rfl, rfl, SqT.of (tup5 at'), rfl, b, _, x, rfl, val5 hx, fun H6 L6 z6 s6 n6 h6 l6 q6 => ?_⟩⟩
        have hL6 := s6 _ _ g5
        refine ⟨L, L6, z5, z6, rfl, rfl, hL6, h6, big_le (by omega), _, _, _, z5 ++ z6, rfl, fun a o na e => ?_, ?_, upd_same, by simp; omega, q5.app q6⟩
        · rw [upd_ne (fun e' => by rw [e', nL] at e; cases e)]
          exact s6 _ _ (f1 a o na e)
        · rw [upd_ne LD]
          exact s6 _ _ f2
      · obtain ⟨t, w', rst, ev, at'⟩ := hev.head
        subst ev
        dsimp only
        refine asg_and (fun Q' q' => ?_) ?_
        · exact ⟨.ref t, rfl, t, _, rfl, .inr (SqT.of (tup sT at')), rfl, _, rfl, ite2 (fun _ => ⟨.ref t, rfl, t, _, 0, _, rfl, rfl, SqT.of (tup sT at'), atI0, .str w', .ty "bool", _, _, false, rfl, .ty "bool", .base (.str w'), kit_ty kSB, q'⟩) (fun _ => q')⟩
        -- let, the field
        refine ⟨.ref L, rfl, .inl ⟨rfl, _, SqL.of hL1⟩, by show 1 ≤ sizeLine; decide, fun p1 np1 => ⟨.bl false, rfl, false, rfl, iteF (.inr ⟨false, rfl, rep01 upd_same (by show 1 ≤ 2; decide) fun p2 ws np2 hwl hwq => ?_⟩)⟩⟩
        have s2 := (sT.trans (same_new (o := .lst [.str "let"]) np1)).trans (same_new (o := .lst ws) np2)
        have g2 : (upd (upd H1 p1 (.lst [.str "let"])) p2 (.lst ws)) p2 = _ := upd_same
        generalize upd (upd H1 p1 (.lst [.str "let"])) p2 (.lst ws) = H2 at s2 g2
        have qw := hwq (.cons (wd_key (by decide +kernel)) .nil)
        have lw : ws.length ≤ 1 := hwl
        refine ⟨.str z, rfl, by show 2 ≤ sizeLine; decide, fun p3 np3 => ⟨p2, p3, ws, _, rfl, rfl, same_new np3 _ _ g2, upd_same, big_le (by show ws.length + 2 ≤ _; omega), fun p4 np4 => ?_⟩⟩
        have s4' := (s2.trans (same_new (o := .lst [.str z, .str ":"]) np3)).trans (same_new (o := .lst (ws ++ [.str z, .str ":"])) np4)
        have g4 : (upd (upd H2 p3 (.lst [.str z, .str ":"])) p4 (.lst (ws ++ [.str z, .str ":"]))) p4 = _ := upd_same
        have q4 : SgL (ws ++ [.str z, .str ":"]) := qw.app (.cons (.wd hz) (.cons sg_colon .nil))
        have l4 : (ws ++ [V.str z, V.str ":"]).length ≤ 3 := by simp; omega
        generalize upd (upd H2 p3 (.lst [.str z, .str ":"])) p4 (.lst (ws ++ [.str z, .str ":"])) = H4 at s4' g4
        generalize ws ++ [V.str z, V.str ":"] = w4 at g4 q4 l4
        refine ⟨L, p4, zs, w4, rfl, rfl, s4' _ _ hL, g4, big_le (by omega), ?_⟩
        obtain ⟨f1, f2⟩ := fin (us := zs ++ w4) s4'
        have g5 : (upd H4 L (.lst (zs ++ w4))) L = some (.lst (zs ++ w4)) := upd_same
        have q5 : SgL (zs ++ w4) := hzq.app q4
        have l5 : (zs ++ w4).length ≤ 1 + i * (3 + szv n) + 3 := by simp; omega
        generalize upd H4 L (.lst (zs ++ w4)) = H5 at f1 f2 g5
        generalize zs ++ w4 = z5 at g5 q5 l5
        -- the value
        have tup5 : ∀ {a : Addr} {us : List V}, At b H a (.tup us) → H5 a = some (.tup us) := fun {a us} ha => f1 a _ (fun e => by have := ha.2; rw [e, aD.2] at this; cases this) ha.2
        have val5 : ∀ {y : V}, VV b (fun a => N a ∧ a ≠ D) H n y → VV b (fun a => N a ∧ a ≠ D) H5 n y := fun {y} hv => hv.tr (fun _ h => h) ⟨fun a us na => ⟨fun e => f1 a _ (fun e' => by rw [e', aD.2] at e; cases e) e, fun e => f1 a _ (fun e' => by rw [e', aD.2] at e; cases e) e⟩, fun a ks hN _ e => f1 a _ hN.2 e⟩
        refine ⟨.ref L, rfl, .inl ⟨rfl, _, SqL.of g5⟩, .bl false, rfl, false, rfl, iteF ⟨.ref t, rfl, b, _, .ref t, rfl, val5 hev, fun H6 L6 z6 s6 n6 h6 l6 q6 => ?_⟩⟩
        have hL6 := s6 _ _ g5
        refine ⟨L, L6, z5, z6, rfl, rfl, hL6, h6, big_le (by omega), _, _, _, z5 ++ z6, rfl, fun a o na e => ?_, ?_, upd_same, by simp; omega, q5.app q6⟩
        · rw [upd_ne (fun e' => by rw [e', nL] at e; cases e)]
          exact s6 _ _ (f1 a o na e)
        · rw [upd_ne LD]
          exact s6 _ _ f2
    · obtain ⟨_, _, _, zs, rfl, hkp, hDi, hL, hzl, hzq⟩ := hP
      have hmul : kvs.length * (3 + szv n) ≤ c * (3 + szv n) := Nat.mul_le_mul_right _ hkl
      have hmu2 : c * (3 + szv n) ≤ 6 * (3 + szv n) := Nat.mul_le_mul_right _ hc6
      have su : Same H (upd Hi D (.dK kvs)) := fun a o e => by
        by_cases z : a = D
        · subst z
          rw [aD.2] at e
          cases e
          exact upd_same
        · rw [upd_ne z]
          exact hkp a o z e
      have hLu : (upd Hi D (.dK kvs)) L = some (.lst zs) := by rw [upd_ne LD.symm]; exact hL
      refine ⟨hDi, .ref L, rfl, by show 1 ≤ sizeLine; decide, fun p np => ⟨L, p, zs, _, rfl, rfl, same_new np _ _ hLu, upd_same, big_le (by show zs.length + 1 ≤ _; omega), fun p2 np2 => ?_⟩⟩
      exact hQ _ p2 _ ((su.trans (same_new np)).trans (same_new np2)) (old_none (su.trans (same_new np)) np2) upd_same (by simp; omega) (hzq.app (.cons sg_close .nil))
end
end M02

set_option Elab.async false
set_option linter.all false
set_option maxRecDepth 100000
set_option maxHeartbeats 4000000
/-! signs of values and of bodies, rank by rank -/
namespace M02
open PySem PySem.Spec PyProof.Rows L2 GL GT
def spNo : Sp := fun _ _ _ _ => False
def spV0 : Sp := fun vs H Q _ => ∃ (b : Addr) (v : V), vs = [v] ∧ SVp b H v ∧ Sgs H 12 Q
def spBx : Nat → Sp
  | 0 => spNo
  | n + 1 => spBS n
theorem Sgs.mono {H : Hp} {k k' : Nat} {Q : VK} (h : Sgs H k Q) (le : k' ≤ k) : Sgs H k' Q := fun H' L zs s n e l g => h H' L zs s n e (by omega) g
section
variable {P : Program} {w : World} {K : PySem.W.Frag} {mg : Str → Option Value} {base : Heap}
theorem ok_no {f : Addr} {fd : FuncData} {k : Nat} {ps : List Str} : FnG P w K mg base CX0 k f fd ps spNo := ⟨fun _ _ _ _ h => h.elim, fun _ _ _ _ _ _ _ _ _ _ _ _ _ _ h => h.elim⟩
theorem SV.p {b : Addr} {H H' : Hp} {v : V} (h : SV b H v) (s : Same H H') : SVp b H' v := .inl (h.off (Same.off s))
theorem vg_vs {n : Nat} (hn : n ≤ 3) : ∀ vs H Q E, spVS n vs H Q E → spVg spV0 (spBx n) vs H Q E := by
  rintro vs H Q E ⟨b, N, v, rfl, hv, hQ⟩
  refine ⟨b, v, rfl, ?_⟩
  have z31 : 31 ≤ szv n := by
    cases n with
    | zero => exact Nat.le_refl _
    | succ n => show 31 ≤ 35 + 4 * szv n; omega
  have h0 : ∀ {v : V}, VV0 b H v → (SVp b H v ∧ Sgs H 12 Q) ∨ (∃ (t : Addr) (q x y z : V), v = .ref t ∧ At b H t (.tup [.str "if", q, x, y, z]) ∧ PathAt b H q ∧ Lit x ∧ (∀ H' Q', Same H H' → Sgs H' 12 Q' → spV0 [y] H' Q' E0) ∧ (∀ H' Q', Same H H' → Sgs H' 12 Q' → spV0 [z] H' Q' E0) ∧ Sgs H 31 Q) := by
    rintro v (h | ⟨t, q, x, y, z, e, a, hq, hx, hy, hz⟩)
    · exact .inl ⟨.inl h, hQ.mono (by omega)⟩
    · exact .inr ⟨t, q, x, y, z, e, a, hq, hx, fun H' Q' s g => ⟨b, y, rfl, hy.p s, g⟩, fun H' Q' s g => ⟨b, z, rfl, hz.p s, g⟩, hQ.mono z31⟩
  cases n with
  | zero => exact (h0 hv).imp id .inl
  | succ n =>
    rcases hv with h | ⟨t, d, kvs, e, a, hN, hl, hk, h⟩
    · exact (h0 h).imp id .inl
    · have hs := szv_le (n := n) (by omega)
      refine .inr (.inr ⟨t, d, kvs, 2 + 4 * (3 + szv n), e, a, by omega, fun H' Q' s g => ?_, hQ.mono (by show 21 + (2 + 4 * (3 + szv n)) ≤ 35 + 4 * szv n; omega), ?_⟩)
      · have hB : BD b N H' n d := BD.tr (N := N) ⟨kvs, a, hN, hl, hk⟩ (fun _ h => h) (Same.off s).v
        obtain ⟨kvs', a', l', h'⟩ := hB.bs
        exact ⟨b, d, N, kvs', 4, rfl, a', l', by decide, by omega, h', g⟩
      · refine h.imp id (Or.imp id ?_)
        rintro ⟨src, nm, wh, at', h1, h2, h3⟩
        refine ⟨src, nm, wh, at', h1, h2, h3.imp id ?_⟩
        rintro ⟨w', r, left, e1, aw, hleft, hr⟩
        refine ⟨w', r, left, e1, aw, hleft, fun H' Q' s g => ⟨b, .ref r, rfl, ?_, g⟩⟩
        rcases hr with ⟨q, aq, hq⟩ | ⟨x, ax, hx⟩
        · exact .inr ⟨r, q, rfl, aq.off (Same.off s), hq.off (Same.off s)⟩
        · exact .inl ⟨r, rfl, .inl ⟨x, ax.off (Same.off s), hx⟩⟩
theorem vg_v0 : ∀ vs H Q E, spV0 vs H Q E → spVg spNo spNo vs H Q E := by
  rintro vs H Q E ⟨b, v, rfl, hv, hQ⟩
  exact ⟨b, v, rfl, .inl ⟨hv, hQ⟩⟩
/-- a def of the law, with any promise -/
structure Dn0 (K : PySem.W.Frag) (mg : Str → Option Value) (x : Str) (ps : List Str) where
  f : Addr
  fd : FuncData
  g : mg x = some (.ref f)
  kp : PySem.W.keepIn K (.ref f) = true
  b : Binds K fd ps []
def Dn0.to {x : Str} {ps : List Str} (d : Dn0 K mg x ps) {k : Nat} {sp : Sp} (h : FnG P w K mg base CX0 k d.f d.fd ps sp) : DnG P w K mg base x k ps sp := ⟨d.f, d.fd, h, d.g, d.kp, d.b⟩
theorem ok_signs3 (v : Dn0 K mg "_law_value_signs" ["_law_value_here"]) (y : Dn0 K mg "_law_body_signs" ["_law_body_here"]) (Fv : Fun K "_law_value_signs" "_law_value_signs" sVSig v.f v.fd) (Fy : Fun K "_law_body_signs" "_law_body_signs" sBSig y.f y.fd) (T : Bl K mg)
    (d_l : DnG P w K mg base "_law_literal_signs" 1 ["_law_value_here"] spLSig) : FnG P w K mg base CX0 10 y.f y.fd ["_law_body_here"] (Up spBS) := by
  have v0 := (ok_vg (by decide) Fv T d_l (v.to (k := 1) ok_no) (y.to (k := 1) ok_no)).imp vg_v0
  have v1 := (ok_vg (by decide) Fv T d_l (v.to v0) (y.to (k := 2) ok_no)).imp (vg_vs (n := 0) (by decide))
  have y1 := ok_bs (n := 0) Fy T (v.to v1)
  have v2 := (ok_vg (by decide) Fv T d_l (v.to (v0.mono (by decide))) (y.to y1)).imp (vg_vs (n := 1) (by decide))
  have y2 := ok_bs (n := 1) Fy T (v.to v2)
  have v3 := (ok_vg (by decide) Fv T d_l (v.to (v0.mono (by decide))) (y.to y2)).imp (vg_vs (n := 2) (by decide))
  have y3 := ok_bs (n := 2) Fy T (v.to v3)
  have v4 := (ok_vg (by decide) Fv T d_l (v.to (v0.mono (by decide))) (y.to y3)).imp (vg_vs (n := 3) (by decide))
  have y4 := ok_bs (n := 3) Fy T (v.to v4)
  refine FnG.up fun r hr => ?_
  match r, hr with
  | 0, _ => exact y1.mono (by decide)
  | 1, _ => exact y2.mono (by decide)
  | 2, _ => exact y3.mono (by decide)
  | 3, _ => exact y4.mono (by decide)
end
end M02

set_option Elab.async false
set_option linter.all false
set_option maxRecDepth 100000
set_option maxHeartbeats 4000000
/-! the signs of a book: _law_signs -/
namespace M02
open PySem PySem.Spec PyProof.Rows L2 GL GT
theorem scS4 : FnScope ["_law_book_here", "_law_found", "_law_name", "_law_base", "_law_entries_here", "_law_fields", "_law_items", "_law_heading", "_law_item", "_law_field", "_law_kind", "_law_value_here"] ["_law_book_here"] (defScope sSigns) := ⟨rfl, rfl, rfl, by decide +kernel, rfl, by decide +kernel, by decide +kernel⟩
/-- a template's entries, none of which holds its own dict -/
theorem TempAt.bs {b : Addr} {N : Addr → Prop} {H : Hp} {r most : Nat} {v : V} (h : TempAt b N H r most v) : ∃ (t : Addr) (bs : V) (D : Addr) (kvs : List (Key × V)), v = .ref t ∧ At b H t (.tup [bs, .ref D]) ∧ (bs = .non ∨ ∃ z : Str, bs = .str z ∧ Wd z) ∧ At b H D (.dK kvs) ∧ kvs.length ≤ most ∧
    ∀ p ∈ kvs, ∃ z : Str, p.1 = .inr z ∧ Wd z ∧ (EV b (fun a => N a ∧ a ≠ D) H r p.2 ∨ VV b (fun a => N a ∧ a ≠ D) H r p.2) := by
  obtain ⟨t, bs, D, kvs, e, a, hb, aD, nD, hl, h⟩ := h
  rcases h with h | h
  · exact ⟨t, bs, D, kvs, e, a, hb, aD, hl, fun p hp => let ⟨z, e1, hz, hv⟩ := h p hp; ⟨z, e1, hz, .inl hv⟩⟩
  · by_cases h4 : kvs.length ≤ 4
    · obtain ⟨kvs', aD', _, h'⟩ := BD.bs (n := r) ⟨kvs, aD, nD, h4, h⟩
      exact ⟨t, bs, D, kvs', e, a, hb, aD', by have := aD'.2; rw [aD.2] at this; cases this; exact hl, h'⟩
    · refine ⟨t, bs, D, kvs, e, a, hb, aD, hl, fun p hp => ?_⟩
      obtain ⟨z, e1, hz, hv⟩ := h p hp
      refine ⟨z, e1, hz, .inr (hv.avoid fun k _ hB => ?_)⟩
      obtain ⟨kvs', a', _, l', _⟩ := hB
      have := a'.2
      rw [aD.2] at this
      cases this
      exact h4 l'
theorem sgH1 : SgOk "p: number" := by
  have e : cs "p: number" = cs "p" ++ (58 :: 32 :: cs "number") := by decide +kernel
  refine ⟨?_, by decide +kernel⟩
  rw [e]
  exact Sg.append (.tok (.word (by decide +kernel) (by decide +kernel))) (.sign (by decide +kernel) (by decide +kernel) (.gap (.tok (.word (by decide +kernel) (by decide +kernel))))) (by simp) (fun c hc => by
    have : 58 = c := by simpa using hc
    subst this
    decide +kernel)
theorem sgH2 : SgOk "p: number, t: text" := by
  have e : cs "p: number, t: text" = cs "p: number" ++ (44 :: 32 :: (cs "t" ++ (58 :: 32 :: cs "text"))) := by decide +kernel
  have ht : Sg (cs "t" ++ (58 :: 32 :: cs "text")) := Sg.append (.tok (.word (by decide +kernel) (by decide +kernel))) (.sign (by decide +kernel) (by decide +kernel) (.gap (.tok (.word (by decide +kernel) (by decide +kernel))))) (by simp) (fun c hc => by
    have : 58 = c := by simpa using hc
    subst this
    decide +kernel)
  refine ⟨?_, by decide +kernel⟩
  rw [e]
  exact Sg.append sgH1.1 (.sign (by decide +kernel) (by decide +kernel) (.gap ht)) (by simp) (fun c hc => by
    have : 44 = c := by simpa using hc
    subst this
    decide +kernel)
/-- what stands at the head of a list, field by field -/
def hd1 (p : Key × V) : Str := match p with | (.inr z, .str k) => z ++ ": " ++ k | _ => ""
theorem ff_head {fs : List (Key × V)} (h : FF fs) : SgOk (Txt.join ", " (fs.map hd1)) ∧ ((fs.map hd1).map (·.length)).sum + (fs.map hd1).length * (", " : Str).length ≤ 16777216 := by
  rcases h with rfl | rfl
  · refine ⟨?_, by decide +kernel⟩
    rw [show Txt.join ", " (([(.inr "p", .str "number")] : List (Key × V)).map hd1) = "p: number" by decide +kernel]
    exact sgH1
  · refine ⟨?_, by decide +kernel⟩
    rw [show Txt.join ", " (([(.inr "p", .str "number"), (.inr "t", .str "text")] : List (Key × V)).map hd1) = "p: number, t: text" by decide +kernel]
    exact sgH2
def szT : Nat := 2702
section
variable {P : Program} {w : World} {K : PySem.W.Frag} {mg : Str → Option Value} {base : Heap}
def spSigns : Sp := fun vs H Q _ => ∃ (b B : Addr), vs = [.ref B] ∧ BookR b H B ∧ Sgs H 28000 Q
theorem ok_signs {f : Addr} {fd : FuncData} (F : Fun K "_law_signs" "_law_signs" sSigns f fd) (T : Bl K mg) (d_body_signs : DnG P w K mg base "_law_body_signs" 10 ["_law_body_here"] (Up spBS)) : FnG P w K mg base CX0 11 f fd ["_law_book_here"] spSigns := by
  refine okG0 F scS4 (fun vs H Q E h => ?_) (fun cdv A outer s H vs Q E hr hG h => ?_)
  · obtain ⟨_, _, rfl, _⟩ := h
    rfl
  · obtain ⟨b, B, rfl, ⟨lD, tD, kD, ll, tt, hB, Bl, Bt, lt, hLs, hll, htD, htl, ⟨vd, hvd, hTd⟩, htt⟩, hQ⟩ := h
    refine ⟨_, (pss_cons (ps_set (i := 1) scS4.nd rfl (Or.inl rfl) (pe_lst pa_nil))
      (pss_cons (ps_lock (ps_for PassesOwn.never rfl (pi_items (pe_dget (u1 hr) (pv 0) pe_str (fun _ _ => rfl))) (pg_tup rfl (pgs_cons (pg_name (i := 2) scS4.nd rfl (Or.inl rfl)) (pgs_cons (pg_tup rfl (pgs_cons (pg_name (i := 3) scS4.nd rfl (Or.inl rfl)) (pgs_cons (pg_name (i := 4) scS4.nd rfl (Or.inl rfl)) pgs_nil))) pgs_nil)))
        (pss_one (ps_if (pt_cmpR op_ne (pv 2) pe_str (nomark _))
          (pss_cons (ps_expr (pe_bm PySem.F.plainAttrs_list PySem.F.slot_list_extend PySem.F.type_list_extend mt_extend (pv 1) (pa_cons (pe_op op_cat (pe_lst (pa_cons pe_str (pa_cons (pv 2) pa_nil))) (pe_ifExp (pt_cmpR op_notN (pv 3) pe_non (nomark _)) (pe_lst (pa_cons pe_str (pa_cons (pv 3) pa_nil))) (pe_lst pa_nil))) pa_nil)))
          (pss_one (ps_expr (pe_bm PySem.F.plainAttrs_list PySem.F.slot_list_extend PySem.F.type_list_extend mt_extend (pv 1) (pa_cons (pe_callG d_body_signs.ok (hr.mono (by omega)) hG (by rfl) d_body_signs.g d_body_signs.kp d_body_signs.b .nil pass0 (pa_cons (pv 4) pa_nil)) pa_nil)))))
          pss_nil))))
      (pss_cons (ps_lock (ps_for PassesOwn.never rfl (pi_items (pe_dget (u1 hr) (pv 0) pe_str (fun _ _ => rfl))) (pg_tup rfl (pgs_cons (pg_name (i := 2) scS4.nd rfl (Or.inl rfl)) (pgs_cons (pg_tup rfl (pgs_cons (pg_name (i := 5) scS4.nd rfl (Or.inl rfl)) (pgs_cons (pg_name (i := 6) scS4.nd rfl (Or.inl rfl)) pgs_nil))) pgs_nil)))
        (pss_cons (ps_set (i := 7) scS4.nd rfl (Or.inl rfl) (pe_join pe_str (pe_lock (pe_lc (own := [("_law_field", 9), ("_law_kind", 10)]) (g := gTup K 2 (gCons (gName 9) (gCons (gName 10) gNil))) (by rfl) scS4.nd (pi_items (pv 5)) (blkOk_by (own := [("_law_field", 9), ("_law_kind", 10)]) (N := ["_law_book_here", "_law_found", "_law_name", "_law_base", "_law_entries_here", "_law_fields", "_law_items", "_law_heading", "_law_item", "_law_field", "_law_kind", "_law_value_here"]) (sc := defScope sSigns) (by decide +kernel)) (fun _ _ _ _ _ => (pg_tup rfl (pgs_cons (pg_name (i := 9) scS4.nd rfl (Or.inl rfl)) (pgs_cons (pg_name (i := 10) scS4.nd rfl (Or.inl rfl)) pgs_nil)))) (fun _ _ _ _ _ => pts_nil) (fun _ _ _ _ _ => (pe_op op_add_str (pe_op op_add_str (pv 9) pe_str) (pv 10)))))))
        (pss_cons (ps_expr (pe_bm PySem.F.plainAttrs_list PySem.F.slot_list_extend PySem.F.type_list_extend mt_extend (pv 1) (pa_cons (pe_lst (pa_cons pe_str (pa_cons (pv 2) (pa_cons pe_str (pa_cons (pv 7) (pa_cons pe_str (pa_cons pe_str pa_nil))))))) pa_nil)))
        (pss_cons (ps_for PassesOwn.never rfl (pi_list (pv 6)) (pg_name (i := 8) scS4.nd rfl (Or.inl rfl))
          (pss_one (ps_expr (pe_bm PySem.F.plainAttrs_list PySem.F.slot_list_extend PySem.F.type_list_extend mt_extend (pv 1) (pa_cons (pe_callG d_body_signs.ok (hr.mono (by omega)) hG (by rfl) d_body_signs.g d_body_signs.kp d_body_signs.b .nil pass0 (pa_cons (pe_callTy (call_dictP rfl) (by rfl) T.dict (by decide +kernel) (pa_cons (pe_lock (pe_lc (own := [("_law_field", 9), ("_law_value_here", 11)]) (g := gTup K 2 (gCons (gName 9) (gCons (gName 11) gNil))) (by rfl) scS4.nd (pi_items (pv 8)) (blkOk_by (own := [("_law_field", 9), ("_law_value_here", 11)]) (N := ["_law_book_here", "_law_found", "_law_name", "_law_base", "_law_entries_here", "_law_fields", "_law_items", "_law_heading", "_law_item", "_law_field", "_law_kind", "_law_value_here"]) (sc := defScope sSigns) (by decide +kernel)) (fun _ _ _ _ _ => (pg_tup rfl (pgs_cons (pg_name (i := 9) scS4.nd rfl (Or.inl rfl)) (pgs_cons (pg_name (i := 11) scS4.nd rfl (Or.inl rfl)) pgs_nil)))) (fun _ _ _ _ _ => pts_nil) (fun _ _ _ _ _ => (pe_tup (pa_cons (pv 9) (pa_cons (pe_tup (pa_cons pe_str (pa_cons (pv 11) pa_nil))) pa_nil)))))) pa_nil)) pa_nil)) pa_nil)))))
        (pss_one (ps_expr (pe_bm PySem.F.plainAttrs_list PySem.F.slot_list_append PySem.F.type_list_append mt_append (pv 1) (pa_cons pe_str pa_nil)))))))))
      (pss_one (ps_ret (pe_op op_cat (pe_op op_cat (pv 1) (pe_lst (pa_cons pe_str pa_nil))) (pe_callG d_body_signs.ok (hr.mono (by omega)) hG (by rfl) d_body_signs.g d_body_signs.kp d_body_signs.b .nil pass0 (pa_cons (pe_ix (r := rIxT K) ix_tup (pe_dget (u1 hr) (pe_dget (u1 hr) (pv 0) pe_str (fun _ _ => rfl)) pe_str (fun _ _ => rfl)) pe_int (fun _ _ => rfl)) pa_nil)))))))), ?_⟩
    refine ⟨Nat.zero_le _, fun L nL => ?_⟩
    have hlT := htD.ne nL
    have ht1 := same_new (o := .lst []) nL _ _ htD.2
    -- the templates
    refine ⟨tD, .dK tt, ht1, trivial, fun od => ⟨.ref B, rfl, B, .ref tD, rfl, by rw [← book_temps]; exact DGet.k (k := .inr "templates") (by rw [upd_ne Bt]; exact same_new nL _ _ hB.2), tD, od, tt, rfl, upd_same, ?_⟩⟩
    have kp0 : ∀ a o, a ≠ tD → H a = some o → (upd (upd H L (.lst [])) tD (.frz od (.dK tt))) a = some o := fun a o na h => by
      rw [upd_ne na]
      exact same_new nL _ _ h
    have hL0 : (upd (upd H L (.lst [])) tD (.frz od (.dK tt))) L = some (.lst []) := by rw [upd_ne hlT.symm]; exact upd_same
    have hDf : (upd (upd H L (.lst [])) tD (.frz od (.dK tt))) tD = some (.frz od (.dK tt)) := upd_same
    generalize upd (upd H L (.lst [])) tD (.frz od (.dK tt)) = H0 at kp0 hL0 hDf
    refine for_it (walk_items (kvs := tt)) (fun i σ Hi => ∃ (y2 y3 y4 y5 y6 y7 y8 y9 y10 y11 : Option V) (zs : List V), σ = [some (.ref B), some (.ref L), y2, y3, y4, y5, y6, y7, y8, y9, y10, y11] ∧ (∀ a o, a ≠ tD → H a = some o → Hi a = some o) ∧ Hi tD = some (.frz od (.dK tt)) ∧ Hi L = some (.lst zs) ∧ zs.length ≤ i * 2702 ∧ SgL zs)
      ⟨none, none, none, none, none, none, none, none, none, none, _, rfl, kp0, hDf, hL0, Nat.zero_le _, .nil⟩ (fun i σ Hi _ hP => by obtain ⟨_, _, _, _, _, _, _, _, _, _, _, _, _, h, _⟩ := hP; exact h) (fun i x σ Hi Hi' hi hP hY => ?_) (fun σ Hi hP => ?_)
    · obtain ⟨y2, y3, y4, y5, y6, y7, y8, y9, y10, y11, zs, rfl, hkp, hDi, hL, hzl, hzq⟩ := hP
      obtain ⟨Tp, x1, x2, rfl, nT, rfl, e1, e2⟩ := hY
      obtain ⟨⟨ky, v⟩, hkv2⟩ : ∃ p, tt[i]? = some p := ⟨_, List.getElem?_eq_getElem hi⟩
      have e1 : (tt[i]?.map fun kv => kV kv.1) = some x1 := e1
      have e2 : (tt[i]?.map Prod.snd) = some x2 := e2
      rw [hkv2] at e1 e2
      cases e1
      cases e2
      obtain ⟨z, ez, hz⟩ := htt _ (List.mem_of_getElem? hkv2)
      have ez : ky = .inr z := ez
      subst ez
      have sT : Same Hi (upd Hi Tp (.tup [kV (.inr z), v])) := same_new nT
      have off : ∀ {Hx : Hp}, Same Hi Hx → Off b (ers B lD tD kD H) Hx := fun {Hx} h a o na e => by
        obtain ⟨n4, h4⟩ := ers_some e
        exact h _ _ (hkp a o (fun e' => n4 (.inr (.inr (.inl e')))) h4)
      have fin : ∀ {Ha : Hp} {us : List V}, Same Hi Ha → (∀ a o, a ≠ tD → H a = some o → (upd Ha L (.lst us)) a = some o) ∧ (upd Ha L (.lst us)) tD = some (.frz od (.dK tt)) := fun {Ha us} h => ⟨fun a o na e => by
        rw [upd_ne (fun e' => by rw [e', nL] at e; cases e)]
        exact h _ _ (hkp a o na e), by rw [upd_ne hlT]; exact h _ _ hDi⟩
      have hT : ∃ r most, r ≤ 3 ∧ (Wd z → r = 2 ∧ most = 4) ∧ (z = "" ∨ Wd z) ∧ TempAt b (NB B lD tD kD) (ers B lD tD kD H) r most v := by
        rcases hz with ⟨e, h⟩ | ⟨e, h⟩
        · refine ⟨3, 6, by decide, fun hw => ?_, .inl e, h⟩
          exact absurd (by rw [e]; decide +kernel) hw.1
        · exact ⟨2, 4, by decide, fun _ => ⟨rfl, rfl⟩, .inr e, h⟩
      obtain ⟨r, most, hr3, hrm, hzw, hT⟩ := hT
      obtain ⟨t, bs, D, kvs, rfl, at', hbs, aD, hkl, hkv⟩ := hT.bs
      refine ⟨Tp, _, rfl, SqT.of upd_same, rfl, _, _, rfl, _, _, rfl, t, _, rfl, SqT.of (off sT _ _ at'.1 at'.2), rfl, _, _, rfl, _, _, rfl, rfl, rfl, ?_⟩
      generalize upd Hi Tp (.tup [kV (.inr z), .ref t]) = H1 at sT
      have hL1 := sT _ _ hL
      rcases hzw with e | hw
      · refine ⟨.str z, rfl, rfl, _, rfl, ?_⟩
        rw [e, show (!decide (V.str "" = V.str "")) = false by decide +kernel]
        exact iteF ⟨_, _, _, _, _, _, _, _, _, _, zs, rfl, fun a o na e => sT _ _ (hkp a o na e), sT _ _ hDi, hL1, by omega, hzq⟩
      · obtain ⟨rfl, rfl⟩ := hrm hw
        refine ⟨.str z, rfl, rfl, _, rfl, ite2 (fun _ => ?_) (fun _ => ⟨_, _, _, _, _, _, _, _, _, _, zs, rfl, fun a o na e => sT _ _ (hkp a o na e), sT _ _ hDi, hL1, by omega, hzq⟩)⟩
        -- template, its name, its base
        refine ⟨.ref L, rfl, .inl ⟨rfl, _, SqL.of hL1⟩, .str z, rfl, by show 2 ≤ sizeLine; decide, fun p1 np1 => ?_⟩
        have s1 := sT.trans (same_new (o := .lst [.str "template", .str z]) np1)
        have g1 : (upd H1 p1 (.lst [.str "template", .str z])) p1 = _ := upd_same
        generalize upd H1 p1 (.lst [.str "template", .str z]) = H2 at s1 g1
        refine if_anyH (R := fun v H' => Same H2 H' ∧ ∃ p ws, v = .ref p ∧ H' p = some (.lst ws) ∧ ws.length ≤ 2 ∧ SgL ws) (fun Q' q' => ?_) (fun v H3 hv => ?_)
        · refine ⟨bs, rfl, rfl, _, rfl, ite2 (fun e => ?_) (fun _ => ⟨Nat.zero_le _, fun p np => q' _ _ ⟨same_new np, p, _, rfl, upd_same, Nat.zero_le _, .nil⟩⟩)⟩
          rcases hbs with rfl | ⟨zb, rfl, hzb⟩
          · simp at e
          · exact ⟨.str zb, rfl, by show 2 ≤ sizeLine; decide, fun p np => q' _ _ ⟨same_new np, p, _, rfl, upd_same, Nat.le_refl _, .cons sg_eq (.cons (.wd hzb) .nil)⟩⟩
        obtain ⟨s3, p3, w3, rfl, g3, l3, q3⟩ := hv
        refine ⟨p1, p3, _, w3, rfl, rfl, s3 _ _ g1, g3, big_le (by show 2 + w3.length ≤ _; omega), fun p4 np4 => ⟨L, p4, zs, _, rfl, rfl, same_new np4 _ _ (s3 _ _ (s1 _ _ hL)), upd_same, big_le (by simp; omega), ?_⟩⟩
        have s4 := (s1.trans s3).trans (same_new (o := .lst ([.str "template", .str z] ++ w3)) np4)
        obtain ⟨f1, f2⟩ := fin (us := zs ++ ([.str "template", .str z] ++ w3)) s4
        have g5 : (upd (upd H3 p4 (.lst ([.str "template", .str z] ++ w3))) L (.lst (zs ++ ([.str "template", .str z] ++ w3)))) L = _ := upd_same
        have q5 : SgL (zs ++ ([.str "template", .str z] ++ w3)) := hzq.app (SgL.app (.cons (wd_key (by decide +kernel)) (.cons (.wd hw) .nil)) q3)
        have l5 : (zs ++ ([V.str "template", V.str z] ++ w3)).length ≤ i * 2702 + 4 := by simp; omega
        generalize upd (upd H3 p4 (.lst ([.str "template", .str z] ++ w3))) L (.lst (zs ++ ([.str "template", .str z] ++ w3))) = H5 at f1 f2 g5
        generalize zs ++ ([V.str "template", V.str z] ++ w3) = z5 at g5 q5 l5
        -- its body
        have off5 : Off b (ers B lD tD kD H) H5 := fun a o na e => by
          obtain ⟨n4, h4⟩ := ers_some e
          exact f1 a o (fun e' => n4 (.inr (.inr (.inl e')))) h4
        refine ⟨.ref L, rfl, .inl ⟨rfl, _, SqL.of g5⟩, .ref D, rfl, 2, by decide, b, D, _, kvs, 4, rfl, aD.off off5, hkl, by decide, by decide, fun p hp => let ⟨z', e', hz', h'⟩ := hkv p hp; ⟨z', e', hz', h'.imp (fun h => h.tr (fun _ h => h) off5.v) (fun h => h.tr (fun _ h => h) off5.v)⟩, fun H6 L6 z6 s6 n6 h6 l6 q6 => ?_⟩
        have l6 : z6.length ≤ 2698 := l6
        refine ⟨L, L6, z5, z6, rfl, rfl, s6 _ _ g5, h6, big_le (by omega), _, _, _, _, _, _, _, _, _, _, z5 ++ z6, rfl, fun a o na e => ?_, ?_, upd_same, by simp; omega, q5.app q6⟩
        · rw [upd_ne (fun e' => by rw [e', nL] at e; cases e)]
          exact s6 _ _ (f1 a o na e)
        · rw [upd_ne hlT]
          exact s6 _ _ f2
    · obtain ⟨y2, y3, y4, y5, y6, y7, y8, y9, y10, y11, zs, rfl, hkp, hDi, hL, hzl, hzq⟩ := hP
      have su : Same H (upd Hi tD (.dK tt)) := fun a o e => by
        by_cases z : a = tD
        · subst z
          rw [htD.2] at e
          cases e
          exact upd_same
        · rw [upd_ne z]
          exact hkp a o z e
      have hLu : (upd Hi tD (.dK tt)) L = some (.lst zs) := by rw [upd_ne hlT.symm]; exact hL
      refine ⟨hDi, ?_⟩
      generalize upd Hi tD (.dK tt) = H1 at su hLu
      have hzl : zs.length ≤ 4 * 2702 := Nat.le_trans hzl (Nat.mul_le_mul_right _ htl)
      -- the lists
      have hlL : lD ≠ L := hLs.1.ne nL
      refine ⟨lD, .dK ll, su _ _ hLs.1.2, trivial, fun od2 => ⟨.ref B, rfl, B, .ref lD, rfl, by rw [← book_lists]; exact DGet.k (k := .inr "lists") (by rw [upd_ne Bl]; exact su _ _ hB.2), lD, od2, ll, rfl, upd_same, ?_⟩⟩
      have kp1 : ∀ a o, a ≠ lD → H a = some o → (upd H1 lD (.frz od2 (.dK ll))) a = some o := fun a o na h => by
        rw [upd_ne na]
        exact su _ _ h
      have hL1 : (upd H1 lD (.frz od2 (.dK ll))) L = some (.lst zs) := by rw [upd_ne hlL.symm]; exact hLu
      have hlf : (upd H1 lD (.frz od2 (.dK ll))) lD = some (.frz od2 (.dK ll)) := upd_same
      generalize upd H1 lD (.frz od2 (.dK ll)) = H2 at kp1 hL1 hlf
      refine for_it (walk_items (kvs := ll)) (fun i σ Hi => ∃ (y2 y3 y4 y5 y6 y7 y8 y9 y10 y11 : Option V) (zs : List V), σ = [some (.ref B), some (.ref L), y2, y3, y4, y5, y6, y7, y8, y9, y10, y11] ∧ (∀ a o, a ≠ lD → H a = some o → Hi a = some o) ∧ Hi lD = some (.frz od2 (.dK ll)) ∧ Hi L = some (.lst zs) ∧ zs.length ≤ 4 * 2702 + i * 421 ∧ SgL zs)
        ⟨_, _, _, _, _, _, _, _, _, _, zs, rfl, kp1, hlf, hL1, by omega, hzq⟩ (fun i σ Hi _ hP => by obtain ⟨_, _, _, _, _, _, _, _, _, _, _, _, _, h, _⟩ := hP; exact h) (fun i x σ Hi Hi' hi hP hY => ?_) (fun σ Hi hP => ?_)
      · obtain ⟨y2, y3, y4, y5, y6, y7, y8, y9, y10, y11, zs, rfl, hkp, hDi, hL, hzl, hzq⟩ := hP
        obtain ⟨Tp, x1, x2, rfl, nT, rfl, e1, e2⟩ := hY
        obtain ⟨⟨ky, v⟩, hkv2⟩ : ∃ p, ll[i]? = some p := ⟨_, List.getElem?_eq_getElem hi⟩
        have e1 : (ll[i]?.map fun kv => kV kv.1) = some x1 := e1
        have e2 : (ll[i]?.map Prod.snd) = some x2 := e2
        rw [hkv2] at e1 e2
        cases e1
        cases e2
        obtain ⟨z, ez, hw, _⟩ := hLs.2.2 _ (List.mem_of_getElem? hkv2)
        have ez : ky = .inr z := ez
        subst ez
        have hla : ListAt b (ers B lD tD kD H) v := hll _ (List.mem_of_getElem? hkv2)
        obtain ⟨t, fd, rw_, fs, rs, rfl, at', af, hFF, ar, hrl, hrs⟩ := hla
        have hi2 : i ≤ 1 := by have := hLs.2.1; omega
        have sT : Same Hi (upd Hi Tp (.tup [kV (.inr z), .ref t])) := same_new nT
        have off : ∀ {Hx : Hp}, Same Hi Hx → Off b (ers B lD tD kD H) Hx := fun {Hx} h a o na e => by
          obtain ⟨n4, h4⟩ := ers_some e
          exact h _ _ (hkp a o (fun e' => n4 (.inr (.inl e'))) h4)
        refine ⟨Tp, _, rfl, SqT.of upd_same, rfl, _, _, rfl, _, _, rfl, t, _, rfl, SqT.of (off sT _ _ at'.1 at'.2), rfl, _, _, rfl, _, _, rfl, rfl, rfl, ?_⟩
        generalize upd Hi Tp (.tup [kV (.inr z), .ref t]) = H3 at sT
        -- the heading
        have hf3 := off sT _ _ af.1 af.2
        obtain ⟨hfl, hf0, hfm⟩ := hFF.mem
        refine ⟨⟨_, rfl⟩, fd, .dK fs, hf3, trivial, fun od3 => ⟨.ref fd, rfl, fd, od3, fs, rfl, upd_same, fun Dc nDc => ?_⟩⟩
        have s0 : ∀ a o, a ≠ fd → H3 a = some o → (upd H3 fd (.frz od3 (.dK fs))) a = some o := fun a o na h => by rw [upd_ne na]; exact h
        have hff : (upd H3 fd (.frz od3 (.dK fs))) fd = some (.frz od3 (.dK fs)) := upd_same
        generalize upd H3 fd (.frz od3 (.dK fs)) = Hf at s0 hff nDc
        refine lc_it (walk_items (kvs := fs)) (fun j Hc => Same Hf Hc ∧ Hc Dc = some (.lst (((fs.take j).map hd1).map V.str))) ⟨same_new nDc, upd_same⟩ (fun j Hc _ hP => hP.1 _ _ hff) (fun j x Hc Hc' hj hP hY => ?_) (fun Hc hP => ?_)
        · obtain ⟨sc, hDc⟩ := hP
          obtain ⟨T2, x1, x2, rfl, nT2, rfl, e1, e2⟩ := hY
          obtain ⟨⟨k2, v2⟩, hkv3⟩ : ∃ p, fs[j]? = some p := ⟨_, List.getElem?_eq_getElem hj⟩
          have e1 : (fs[j]?.map fun kv => kV kv.1) = some x1 := e1
          have e2 : (fs[j]?.map Prod.snd) = some x2 := e2
          rw [hkv3] at e1 e2
          cases e1
          cases e2
          obtain ⟨z2, kd2, ez2, hzw2, hkd2⟩ := hfm _ (List.mem_of_getElem? hkv3)
          cases ez2
          have sT2 : Same Hc (upd Hc T2 (.tup [kV (.inr z2), .str kd2])) := same_new nT2
          refine ⟨T2, _, rfl, SqT.of upd_same, rfl, _, _, rfl, _, _, rfl, rfl, rfl, ?_⟩
          generalize upd Hc T2 (.tup [kV (.inr z2), .str kd2]) = He at sT2
          have h1 : z2.length ≤ 8 := hl_of hzw2.2.2
          have h2 : (": " : Str).length = 2 := by decide +kernel
          have h3 : kd2.length ≤ 6 := by
            rcases hkd2 with rfl | rfl <;> decide +kernel
          have h4 : (z2 ++ ": " : Str).length ≤ 10 := hl_of (by rw [cs_app, List.length_append, show (cs ": ").length = 2 by decide +kernel]; have := hzw2.2.2; omega)
          refine ⟨.str z2, rfl, _, _, rfl, rfl, big_le (by omega), .str kd2, rfl, _, _, rfl, rfl, big_le (by omega), _, sT2 _ _ hDc, Nat.lt_of_le_of_lt (by rw [List.length_map, List.length_map, List.length_take]; omega : (((fs.take j).map hd1).map V.str).length ≤ 1000) (by decide), fun a o h => ?_, ?_⟩
          · rw [upd_ne (ne_of_none h nDc)]
            exact sT2 _ _ (sc _ _ h)
          · rw [upd_same, List.take_succ, hkv3, List.map_append, List.map_append]
            rfl
        obtain ⟨sc, hDc⟩ := hP
        have hdc := sc _ _ hff
        have sa : Same H3 (upd Hc fd (.dK fs)) := fun a o h => by
          by_cases e : a = fd
          · subst e
            rw [hf3] at h
            cases h
            exact upd_same
          · rw [upd_ne e]
            exact sc _ _ (s0 a o e h)
        have hDf : (upd Hc fd (.dK fs)) Dc = some (.lst ((fs.map hd1).map V.str)) := by
          rw [upd_ne (fun e => by rw [e, hdc] at hDc; cases hDc), hDc, List.take_length]
        obtain ⟨hH1, hH2⟩ := ff_head hFF
        refine ⟨hdc, _, Dc, fs.map hd1, rfl, rfl, .inl (SqL.of hDf), hH2, ?_⟩
        have s4 := sT.trans sa
        generalize upd Hc fd (.dK fs) = H4 at sa hDf s4
        generalize Txt.join ", " (fs.map hd1) = hg at hH1
        -- the words ahead of the rows
        have hL4 := s4 _ _ hL
        refine ⟨.ref L, rfl, .inl ⟨rfl, _, SqL.of hL4⟩, .str z, rfl, .str hg, rfl, by show 6 ≤ sizeLine; decide, fun p5 np5 => ⟨L, p5, zs, _, rfl, rfl, same_new np5 _ _ hL4, upd_same, big_le (by show zs.length + 6 ≤ _; omega), ?_⟩⟩
        have kpL : ∀ {Ha : Hp} {us : List V}, Same Hi Ha → (∀ a o, a ≠ lD → H a = some o → (upd Ha L (.lst us)) a = some o) ∧ (upd Ha L (.lst us)) lD = some (.frz od2 (.dK ll)) := fun {Ha us} h => ⟨fun a o na e => by
          rw [upd_ne (fun e' => by rw [e', nL] at e; cases e)]
          exact h _ _ (hkp a o na e), by rw [upd_ne hlL]; exact h _ _ hDi⟩
        obtain ⟨f1, f2⟩ := kpL (us := zs ++ [.str "list", .str z, .str "(", .str hg, .str ")", .str "["]) (s4.trans (same_new (o := .lst [.str "list", .str z, .str "(", .str hg, .str ")", .str "["]) np5))
        have g6 : (upd (upd H4 p5 (.lst [.str "list", .str z, .str "(", .str hg, .str ")", .str "["])) L (.lst (zs ++ [.str "list", .str z, .str "(", .str hg, .str ")", .str "["]))) L = _ := upd_same
        have q6 : SgL (zs ++ [.str "list", .str z, .str "(", .str hg, .str ")", .str "["]) := hzq.app (.cons (wd_key (by decide +kernel)) (.cons (.wd hw) (.cons (sg_one (c := 40) (by decide +kernel) (by decide +kernel)) (.cons hH1 (.cons (sg_one (c := 41) (by decide +kernel) (by decide +kernel)) (.cons (sg_one (c := 91) (by decide +kernel) (by decide +kernel)) .nil))))))
        have l6 : (zs ++ [V.str "list", V.str z, V.str "(", V.str hg, V.str ")", V.str "["]).length ≤ 4 * 2702 + i * 421 + 6 := by simp; omega
        generalize upd (upd H4 p5 (.lst [.str "list", .str z, .str "(", .str hg, .str ")", .str "["])) L (.lst (zs ++ [.str "list", .str z, .str "(", .str hg, .str ")", .str "["])) = H6 at f1 f2 g6
        generalize zs ++ [V.str "list", V.str z, V.str "(", V.str hg, V.str ")", V.str "["] = z6 at g6 q6 l6
        have offK : ∀ {Hx : Hp}, (∀ a o, a ≠ lD → H a = some o → Hx a = some o) → ∀ a o, ers B lD tD kD H a = some o → Hx a = some o := fun {Hx} h a o e => by
          obtain ⟨n4, h4⟩ := ers_some e
          exact h a o (fun e' => n4 (.inr (.inl e'))) h4
        refine ⟨.ref rw_, rfl, rw_, rfl, ⟨_, SqL.of (offK f1 _ _ ar.2)⟩, ?_⟩
        refine for_list (K := K) (a := rw_) (xs := rs) (fun j σ Hj => ∃ (y8' y9' y10' y11' : Option V) (us : List V), σ = [some (.ref B), some (.ref L), some (.str z), y3, y4, some (.ref fd), some (.ref rw_), some (.str hg), y8', y9', y10', y11'] ∧ (∀ a o, a ≠ lD → H a = some o → Hj a = some o) ∧ Hj lD = some (.frz od2 (.dK ll)) ∧ Hj L = some (.lst us) ∧ us.length ≤ 4 * 2702 + i * 421 + 6 + j * 70 ∧ SgL us)
          ⟨_, _, _, _, z6, rfl, f1, f2, g6, by omega, q6⟩ (fun j σ Hj _ hP => by obtain ⟨_, _, _, _, _, _, h, _⟩ := hP; exact SqL.of (offK h _ _ ar.2)) (fun j x σ Hj hx hP => ?_) (fun σ Hj hP => ?_)
        · obtain ⟨y8', y9', y10', y11', us, rfl, kj, hlj, hLj, hul, huq⟩ := hP
          have hj : j < rs.length := (List.getElem?_eq_some_iff.mp hx).1
          obtain ⟨rd, ks, rfl, ard, hkl, hks⟩ := hrs x (List.mem_of_getElem? hx)
          have hrd := offK kj _ _ ard.2
          have rdl : rd ≠ lD := fun e => (ers_some ard.2).1 (.inr (.inl e))
          refine ⟨.ref L, rfl, .inl ⟨rfl, _, SqL.of hLj⟩, rd, .dK ks, hrd, trivial, fun od4 => ⟨.ref rd, rfl, rd, od4, ks, rfl, upd_same, fun Dc nDc => ?_⟩⟩
          have s0 : ∀ a o, a ≠ rd → Hj a = some o → (upd Hj rd (.frz od4 (.dK ks))) a = some o := fun a o na h => by rw [upd_ne na]; exact h
          have hff : (upd Hj rd (.frz od4 (.dK ks))) rd = some (.frz od4 (.dK ks)) := upd_same
          generalize upd Hj rd (.frz od4 (.dK ks)) = Hf at s0 hff nDc
          have hlf4 := s0 _ _ rdl.symm hlj
          refine lc_it (walk_items (kvs := ks)) (fun j' Hc => Same Hf Hc ∧ ∃ (ps : List Addr) (kvs : List (Key × V)), Hc Dc = some (.lst (ps.map V.ref)) ∧ ps.length ≤ j' ∧ kvs.length ≤ j' ∧ Paired (fun p kv => At lD Hc p (.tup [kV kv.1, kv.2])) ps kvs ∧ ∀ p ∈ kvs, ∃ z : Str, p.1 = .inr z ∧ Wd z ∧ ∃ u x, p.2 = .ref u ∧ At lD Hc u (.tup [.str "lit", x]) ∧ Lit x)
            ⟨same_new nDc, [], [], upd_same, Nat.le_refl _, Nat.le_refl _, .nil, fun _ h => by (cases h)⟩ (fun j' Hc _ hP => hP.1 _ _ hff) (fun j' x Hc Hc' hj' hP hY => ?_) (fun Hc hP => ?_)
          · obtain ⟨sc, ps, kvs, hD, hpl, hkl', hpk, hkv⟩ := hP
            obtain ⟨T2, x1, x2, rfl, nT2, rfl, e1, e2⟩ := hY
            obtain ⟨⟨k2, v2⟩, hkv3⟩ : ∃ p, ks[j']? = some p := ⟨_, List.getElem?_eq_getElem hj'⟩
            have e1 : (ks[j']?.map fun kv => kV kv.1) = some x1 := e1
            have e2 : (ks[j']?.map Prod.snd) = some x2 := e2
            rw [hkv3] at e1 e2
            cases e1
            cases e2
            obtain ⟨z2, ez2, hzw2, hlit⟩ := hks _ (List.mem_of_getElem? hkv3)
            have ez2 : k2 = .inr z2 := ez2
            subst ez2
            have sT2 : Same Hc (upd Hc T2 (.tup [kV (.inr z2), v2])) := same_new nT2
            refine ⟨T2, _, rfl, SqT.of upd_same, rfl, _, _, rfl, _, _, rfl, rfl, rfl, ?_⟩
            generalize upd Hc T2 (.tup [kV (.inr z2), v2]) = He at sT2
            have hle := sT2 _ _ (sc _ _ hlf4)
            refine ⟨.str z2, rfl, v2, rfl, by show 2 ≤ sizeLine; decide, fun u nu => ⟨by show 2 ≤ sizeLine; decide, fun tp ntp => ?_⟩⟩
            have sU : Same He (upd He u (.tup [.str "lit", v2])) := same_new nu
            have ul : u ≠ lD := (ne_of_none hle nu).symm
            have tl : tp ≠ lD := (ne_of_none (sU _ _ hle) ntp).symm
            have sV := sT2.trans (sU.trans (same_new (o := .tup [.str z2, .ref u]) ntp))
            have au : (upd (upd He u (.tup [.str "lit", v2])) tp (.tup [.str z2, .ref u])) u = some (.tup [.str "lit", v2]) := same_new ntp _ _ upd_same
            have atp : (upd (upd He u (.tup [.str "lit", v2])) tp (.tup [.str z2, .ref u])) tp = some (.tup [.str z2, .ref u]) := upd_same
            generalize upd (upd He u (.tup [.str "lit", v2])) tp (.tup [.str z2, .ref u]) = Hy at sV au atp
            have hDy := sV _ _ hD
            have aL : ∀ {a : Addr} {ws : List V}, At lD Hy a (.tup ws) → At lD (upd Hy Dc (.lst (ps.map V.ref ++ [.ref tp]))) a (.tup ws) := fun {a ws} h => ⟨h.1, by rw [upd_ne (fun e => by have := h.2; rw [e, hDy] at this; cases this)]; exact h.2⟩
            have hP2 : Paired (fun p (kv : Key × V) => At lD (upd Hy Dc (.lst (ps.map V.ref ++ [.ref tp]))) p (.tup [kV kv.1, kv.2])) (ps ++ [tp]) (kvs ++ [(.inr z2, .ref u)]) := Paired.snoc (paired_imp (fun p kv h => aL ⟨h.1, sV _ _ h.2⟩) hpk) (aL ⟨tl, atp⟩)
            refine ⟨_, hDy, Nat.lt_of_le_of_lt (by rw [List.length_map]; omega : (ps.map V.ref).length ≤ 1000) (by decide), fun a o h => ?_, ps ++ [tp], kvs ++ [(.inr z2, .ref u)], by rw [List.map_append]; exact upd_same, by simp; omega, by simp; omega, hP2, fun p hp => ?_⟩
            · rw [upd_ne (ne_of_none h nDc)]
              exact sV _ _ (sc _ _ h)
            · rcases List.mem_append.mp hp with y | y
              · obtain ⟨z', e', hz', u', x', eu, a', hl'⟩ := hkv p y
                exact ⟨z', e', hz', u', x', eu, aL ⟨a'.1, sV _ _ a'.2⟩, hl'⟩
              · rw [List.mem_singleton.mp y]
                exact ⟨z2, rfl, hzw2, u, v2, rfl, aL ⟨ul, au⟩, hlit⟩
          · obtain ⟨sc, ps, kvs, hD, hpl, hkl', hpk, hkv⟩ := hP
            have hdc := sc _ _ hff
            have sa : Same Hj (upd Hc rd (.dK ks)) := fun a o h => by
              by_cases e : a = rd
              · subst e
                rw [hrd] at h
                cases h
                exact upd_same
              · rw [upd_ne e]
                exact sc _ _ (s0 a o e h)
            have hDu : (upd Hc rd (.dK ks)) Dc = some (.lst (ps.map V.ref)) := by rw [upd_ne (fun e => by rw [e, hdc] at hD; cases hD)]; exact hD
            have tu : ∀ {a : Addr} {ws : List V}, Hc a = some (.tup ws) → (upd Hc rd (.dK ks)) a = some (.tup ws) := fun {a ws} h => by rw [upd_ne (fun e => by rw [e, hdc] at h; cases h)]; exact h
            have hpu : Paired (fun p kv => SqT K (upd Hc rd (.dK ks)) p [kV kv.1, kv.2]) ps kvs := paired_imp (fun p kv h => SqT.of (tu h.2)) hpk
            have hku : ∀ p ∈ kvs, ∃ z : Str, p.1 = .inr z ∧ Wd z ∧ ∃ u x, p.2 = .ref u ∧ At lD (upd Hc rd (.dK ks)) u (.tup [.str "lit", x]) ∧ Lit x := fun p hp => by
              obtain ⟨z', e', hz', u', x', eu, a', hl'⟩ := hkv p hp
              exact ⟨z', e', hz', u', x', eu, ⟨a'.1, tu a'.2⟩, hl'⟩
            refine ⟨hdc, Dc, ps, kvs, rfl, SqL.of hDu, hpu, fun dn ndn => ?_⟩
            generalize upd Hc rd (.dK ks) = Hu at sa hDu hku ndn
            have sn := sa.trans (same_new (o := .dK (mergeK [] kvs)) ndn)
            have dl : dn ≠ lD := (ne_of_none (sa _ _ hlj) ndn).symm
            have hlm := len_merge kvs []
            have hl0 : ([] : List (Key × V)).length = 0 := rfl
            refine ⟨0, by decide, lD, dn, fun _ => True, mergeK [] kvs, 2, rfl, ⟨dl, upd_same⟩, by omega, by decide, by decide, fun p hp => ?_, fun H8 L8 z8 s8 n8 h8 l8 q8 => ?_⟩
            · rcases mem_merge hp with y | y
              · cases y
              · obtain ⟨z', e', hz', u', x', eu, a', hl'⟩ := hku p y
                exact ⟨z', e', hz', .inr (.inl ⟨u', eu, .inl ⟨x', ⟨a'.1, same_new ndn _ _ a'.2⟩, hl'⟩⟩)⟩
            · have l8 : z8.length ≤ 70 := l8
              have s9 := sn.trans s8
              refine ⟨L, L8, us, z8, rfl, rfl, s9 _ _ hLj, h8, big_le (by omega), _, _, _, _, us ++ z8, rfl, fun a o na e => ?_, ?_, upd_same, by simp; omega, huq.app q8⟩
              · rw [upd_ne (fun e' => by rw [e', nL] at e; cases e)]
                exact s9 _ _ (kj a o na e)
              · rw [upd_ne hlL]
                exact s9 _ _ hlj
        · obtain ⟨y8', y9', y10', y11', us, rfl, kj, hlj, hLj, hul, huq⟩ := hP
          refine ⟨.ref L, rfl, .inl ⟨rfl, _, SqL.of hLj⟩, L, us, _, rfl, rfl, hLj, Nat.lt_of_le_of_lt (by omega : us.length ≤ 100000) (by decide), ?_⟩
          refine ⟨_, _, _, _, _, _, _, _, _, _, us ++ [.str "]"], rfl, fun a o na e => ?_, ?_, upd_same, by simp; omega, huq.app (.cons (sg_one (c := 93) (by decide +kernel) (by decide +kernel)) .nil)⟩
          · rw [upd_ne (fun e' => by rw [e', nL] at e; cases e)]
            exact kj a o na e
          · rw [upd_ne hlL]
            exact hlj
      · obtain ⟨y2, y3, y4, y5, y6, y7, y8, y9, y10, y11, zs, rfl, hkp, hDi, hL, hzl, hzq⟩ := hP
        have hzl2 : zs.length ≤ 4 * 2702 + 2 * 421 := Nat.le_trans hzl (Nat.add_le_add_left (Nat.mul_le_mul_right _ hLs.2.1) _)
        have su2 : Same H (upd Hi lD (.dK ll)) := fun a o e => by
          by_cases z : a = lD
          · subst z
            rw [hLs.1.2] at e
            cases e
            exact upd_same
          · rw [upd_ne z]
            exact hkp a o z e
        have hLu2 : (upd Hi lD (.dK ll)) L = some (.lst zs) := by rw [upd_ne hlL.symm]; exact hL
        refine ⟨hDi, ?_⟩
        generalize upd Hi lD (.dK ll) = H3 at su2 hLu2
        -- the document
        obtain ⟨t, bs, D, kvs, rfl, at', hbs, aD, hkl, hkv⟩ := hTd.bs
        refine ⟨.ref L, rfl, by show 1 ≤ sizeLine; decide, fun p1 np1 => ⟨L, p1, zs, _, rfl, rfl, same_new np1 _ _ hLu2, upd_same, big_le (by show zs.length + 1 ≤ _; omega), fun p2 np2 => ?_⟩⟩
        have s2 := (su2.trans (same_new (o := .lst [.str "document"]) np1)).trans (same_new (o := .lst (zs ++ [.str "document"])) np2)
        have g2 : (upd (upd H3 p1 (.lst [.str "document"])) p2 (.lst (zs ++ [.str "document"]))) p2 = _ := upd_same
        have q2 : SgL (zs ++ [.str "document"]) := hzq.app (.cons (wd_key (by decide +kernel)) .nil)
        have l2 : (zs ++ [V.str "document"]).length ≤ 4 * 2702 + 2 * 421 + 1 := by simp; omega
        generalize upd (upd H3 p1 (.lst [.str "document"])) p2 (.lst (zs ++ [.str "document"])) = H4 at s2 g2
        generalize zs ++ [V.str "document"] = z2 at g2 q2 l2
        have off4 : Off b (ers B lD tD kD H) H4 := fun a o na e => s2 _ _ (ers_some e).2
        refine ⟨.ref B, rfl, B, .ref tD, rfl, by rw [← book_temps]; exact DGet.k (k := .inr "templates") (s2 _ _ hB.2), tD, .ref t, rfl, by rw [← hvd]; exact DGet.k (k := .inr "") (s2 _ _ htD.2), t, _, 1, _, rfl, rfl, SqT.of (off4 _ _ at'.1 at'.2), rfl, 3, by decide, b, D, _, kvs, 6, rfl, aD.off off4, hkl, by decide, by decide, fun p hp => let ⟨z', e', hz', h'⟩ := hkv p hp; ⟨z', e', hz', h'.imp (fun h => h.tr (fun _ h => h) off4.v) (fun h => h.tr (fun _ h => h) off4.v)⟩, fun H6 L6 z6 s6 n6 h6 l6 q6 => ?_⟩
        have l6 : z6.length ≤ 16334 := l6
        refine ⟨p2, L6, z2, z6, rfl, rfl, s6 _ _ g2, h6, big_le (by omega), fun p7 np7 => ?_⟩
        exact hQ _ p7 _ ((s2.trans s6).trans (same_new np7)) (old_none (s2.trans s6) np7) upd_same (by simp; omega) (q2.app q6)
end
end M02

set_option Elab.async false
set_option linter.all false
set_option maxRecDepth 100000
set_option maxHeartbeats 4000000
/-! the text of a book: _law_text -/
namespace M02
open PySem PySem.Spec PyProof.Rows L2 GL GT
theorem scS5 : FnScope ["_law_box_here", "_law_book_here", "_law_found", "_law_sign"] ["_law_box_here", "_law_book_here"] (defScope sText) := ⟨rfl, rfl, rfl, by decide +kernel, rfl, by decide +kernel, by decide +kernel⟩
/-- a text on which tokens may follow -/
def PreOk (p : Cd) : Prop := ∀ (r : Cd) (qs : List (Nat × Cd)), Lx p.length r qs → ∃ ps, Lx 0 (p ++ r) ps
theorem PreOk.nil : PreOk [] := fun r qs h => ⟨qs, h⟩
theorem PreOk.step {p t g : Cd} (h : PreOk p) (ht : Sg t) (hg : GapT g) (g0 : g ≠ []) : PreOk (p ++ t ++ g) := fun r qs q => by
  rw [List.append_assoc, List.append_assoc]
  have q1 : Lx (p.length + t.length) (g ++ r) qs := hg.1 _ _ _ (by rw [List.length_append, List.length_append] at q; exact q)
  obtain ⟨ps, q2⟩ := ht p.length (g ++ r) qs (fun c hc => hg.2 c (by
    cases g with
    | nil => exact absurd rfl g0
    | cons x y => exact hc)) q1
  exact h _ ps q2
theorem PreOk.lx {p : Cd} (h : PreOk p) : ∃ ps, Lx 0 p ps := by
  obtain ⟨ps, q⟩ := h [] [] .nil
  rw [List.append_nil] at q
  exact ⟨ps, q⟩
theorem text_gaps : ∀ z ∈ ([" ", " ", " ", " ", "\n", "  ", " # note { 1\n"] : List Str), GapT (cs z) ∧ cs z ≠ [] ∧ (cs z).length ≤ 12 := by
  have h1 : GapT (cs " ") := by rw [show cs " " = [32] by decide +kernel]; exact .one (.inl rfl)
  have h2 : GapT (cs "\n") := by rw [show cs "\n" = [10] by decide +kernel]; exact .one (.inr rfl)
  have h3 : GapT (cs "  ") := by rw [show cs "  " = [32] ++ [32] by decide +kernel]; exact .app (.one (.inl rfl)) (.one (.inl rfl))
  have h4 : GapT (cs " # note { 1\n") := by
    rw [show cs " # note { 1\n" = [32] ++ (35 :: (cs " note { 1" ++ [10])) by decide +kernel]
    exact .app (.one (.inl rfl)) (.rem (b := cs " note { 1") (by decide +kernel))
  intro z hz
  simp only [List.mem_cons, List.not_mem_nil, or_false] at hz
  rcases hz with rfl | rfl | rfl | rfl | rfl | rfl | rfl
  · exact ⟨h1, by decide +kernel, by decide +kernel⟩
  · exact ⟨h1, by decide +kernel, by decide +kernel⟩
  · exact ⟨h1, by decide +kernel, by decide +kernel⟩
  · exact ⟨h1, by decide +kernel, by decide +kernel⟩
  · exact ⟨h2, by decide +kernel, by decide +kernel⟩
  · exact ⟨h3, by decide +kernel, by decide +kernel⟩
  · exact ⟨h4, by decide +kernel, by decide +kernel⟩
section
variable {P : Program} {w : World} {K : PySem.W.Frag} {mg : Str → Option Value} {base : Heap}
def spText : Sp := fun vs H Q _ => ∃ (b B : Addr) (n : Nat), vs = [.ref b, .ref B] ∧ Box H b n ∧ n + 28000 < 1000000 ∧ BookR b H B ∧ ∀ (p : Cd) (ps : List (Nat × Cd)) (H' : Hp), Lx 0 p ps → p.length ≤ 900000 → Off b H H' → Box H' b (n + 28000) → Q (.str (S p)) H'
theorem ok_text {f : Addr} {fd : FuncData} (F : Fun K "_law_text" "_law_text" sText f fd) (T : Bl K mg) (d_of : DnG P w K mg base "_law_of" 2 ["_law_box_here", "_law_some"] OfW) (d_signs : DnG P w K mg base "_law_signs" 11 ["_law_book_here"] spSigns) : FnG P w K mg base CX0 12 f fd ["_law_box_here", "_law_book_here"] spText := by
  refine okG0 F scS5 (fun vs H Q E h => ?_) (fun cdv A outer s H vs Q E hr hG h => ?_)
  · obtain ⟨_, _, _, rfl, _⟩ := h
    rfl
  · obtain ⟨b, B, n, rfl, hB, hn, hR, q⟩ := h
    refine ⟨_, (pss_cons (ps_set (i := 2) scS5.nd rfl (Or.inl rfl) pe_str)
      (pss_cons (ps_for PassesOwn.never rfl (pi_list (pe_callG d_signs.ok (hr.mono (by omega)) hG (by rfl) d_signs.g d_signs.kp d_signs.b .nil pass0 (pa_cons (pv 1) pa_nil))) (pg_name (i := 3) scS5.nd rfl (Or.inl rfl))
        (pss_one (ps_set (i := 2) scS5.nd rfl (Or.inl rfl) (pe_op op_add_str (pe_op op_add_str (pv 2) (pv 3)) (pe_callG d_of.ok (hr.mono (by omega)) hG (by rfl) d_of.g d_of.kp d_of.b .nil pass0 (pa_cons (pv 0) (pa_cons (pe_lst (pa_cons pe_str (pa_cons pe_str (pa_cons pe_str (pa_cons pe_str (pa_cons pe_str (pa_cons pe_str (pa_cons pe_str pa_nil)))))))) pa_nil)))))))
      (pss_one (ps_ret (pv 2))))), ?_⟩
    refine ⟨.ref B, rfl, b, B, rfl, hR, fun H1 L zs s1 nL hL hzl hzq => ⟨L, rfl, ⟨_, SqL.of hL⟩, ?_⟩⟩
    have Lb := hB.ne nL
    refine for_list (K := K) (a := L) (xs := zs) (fun i σ Hi => ∃ (y3 : Option V) (p : Cd), σ = [some (.ref b), some (.ref B), some (.str (S p)), y3] ∧ Off b H1 Hi ∧ Box Hi b (n + i) ∧ PreOk p ∧ p.length ≤ 32 * i)
      ⟨none, [], rfl, Off.refl b H1, hB.same s1, .nil, Nat.le_refl _⟩ (fun i σ Hi _ hP => by obtain ⟨_, _, _, o, _⟩ := hP; exact SqL.of (o.mem Lb hL)) (fun i x σ Hi hx hP => ?_) (fun σ Hi hP => ?_)
    · obtain ⟨y3, p, rfl, o, Bi, hp, hpl⟩ := hP
      have hi : i < zs.length := (List.getElem?_eq_some_iff.mp hx).1
      obtain ⟨z, rfl, hz⟩ := hzq x (List.mem_of_getElem? hx)
      have lS : (S p).length = p.length := len_S p
      have lz : z.length ≤ 20 := hl_of hz.2
      have l1 : (S p ++ z).length = p.length + (cs z).length := by rw [len_cs, cs_app, cs_S, List.length_append]
      refine ⟨.str (S p), rfl, .str z, rfl, _, _, rfl, rfl, big_le (by omega), .ref b, rfl, of_new Bi (by omega) (by decide) (by decide) fun y H2 hy o2 B2 => ?_⟩
      obtain ⟨gz, hgz, rfl⟩ : ∃ gz : Str, gz ∈ ([" ", " ", " ", " ", "\n", "  ", " # note { 1\n"] : List Str) ∧ y = .str gz := by
        obtain ⟨a, h1, h2⟩ := List.mem_map.mp (show y ∈ ([" ", " ", " ", " ", "\n", "  ", " # note { 1\n"] : List Str).map V.str from hy)
        exact ⟨a, h1, h2.symm⟩
      obtain ⟨hg1, hg2, hg3⟩ := text_gaps gz hgz
      have lg : gz.length ≤ 12 := hl_of hg3
      have hz2 := hz.2
      refine ⟨_, _, rfl, rfl, big_le (by omega), some (.str z), p ++ cs z ++ cs gz, ?_, o.trans o2, B2.mono (by omega), hp.step hz.1 hg1 hg2, by simp only [List.length_append]; omega⟩
      rw [show (S p ++ z ++ gz : Str) = S (p ++ cs z ++ cs gz) from str_ext (by rw [cs_app, cs_app, cs_S, cs_S])]
      rfl
    · obtain ⟨y3, p, rfl, o, Bi, hp, hpl⟩ := hP
      obtain ⟨ps, hlx⟩ := hp.lx
      exact ⟨.str (S p), rfl, q p ps Hi hlx (by omega) (fun a o' na h => o a o' na (s1 a o' h)) (Bi.mono (by omega))⟩
end
end M02

set_option Elab.async false
set_option linter.all false
set_option maxRecDepth 100000
set_option maxHeartbeats 4000000
/-! tokens as data, and how long their text is -/
namespace M02
open PySem PySem.Spec PyProof.Rows L2 GL GT PySem.Builtin PySem.Builtin.Str
theorem prt {c : Nat} (h1 : 32 ≤ c) (h2 : c ≤ 126) : Unicode.isPrintable c = true := by
  have h : ∀ c, c < 127 → 32 ≤ c → Unicode.isPrintable c = true := by decide +kernel
  exact h c (by omega) h1
theorem rc2 {q c : Nat} (h1 : 32 ≤ c) (h2 : c ≤ 126) : (reprChar q c).length ≤ 2 := by
  unfold reprChar
  dsimp only
  split
  · exact Nat.le_refl _
  · split
    · exact Nat.le_refl _
    · split
      · exact Nat.le_refl _
      · split
        · exact Nat.le_refl _
        · rw [if_pos (prt h1 h2)]
          show 1 ≤ 2
          decide
theorem fold2 (q : Nat) : ∀ (l : List Nat) (acc : Array Nat), (∀ c ∈ l, 32 ≤ c ∧ c ≤ 126) → (l.foldl (fun out c => out ++ (reprChar q c).toArray) acc).size ≤ acc.size + 2 * l.length
  | [], acc, _ => by simp
  | c :: r, acc, h => by
    have ih := fold2 q r (acc ++ (reprChar q c).toArray) fun d hd => h d (List.mem_cons_of_mem _ hd)
    have hc := rc2 (q := q) (h c List.mem_cons_self).1 (h c List.mem_cons_self).2
    simp only [List.foldl_cons, List.length_cons]
    simp only [Array.size_append, List.size_toArray] at ih
    omega
theorem repr2 {x : Str} (hx : ∀ c ∈ cs x, 32 ≤ c ∧ c ≤ 126) : (reprText x).length ≤ 2 * x.length + 2 := by
  unfold reprText
  show ((x.cps.foldl (fun out c => out ++ (reprChar (reprQuote x) c).toArray) #[reprQuote x]).push (reprQuote x)).size ≤ _
  rw [Array.size_push, ← Array.foldl_toList]
  have := fold2 (reprQuote x) x.cps.toList #[reprQuote x] hx
  have e : x.cps.toList.length = x.length := by simp [Str.length]
  rw [e] at this
  have e1 : (#[reprQuote x] : Array Nat).size = 1 := rfl
  omega
theorem Tok.asc {t : Cd} (h : Tok t) : ∀ c ∈ t, 32 ≤ c ∧ c ≤ 126 := by
  cases h with
  | word _ h => exact fun c hc => by have := mem_lets.mp (h c hc); omega
  | num _ h _ => exact fun c hc => by have := mem_digs.mp (h c hc); omega
  | str h =>
    intro c hc
    rcases List.mem_cons.mp hc with e | e
    · omega
    · rcases List.mem_append.mp e with e | e
      · have := h.2 c e
        omega
      · have := List.mem_singleton.mp e
        omega
  | sign h =>
    intro c hc
    rw [List.mem_singleton.mp hc]
    have : ∀ d ∈ sgns, 32 ≤ d ∧ d ≤ 126 := by decide +kernel
    exact this _ h
theorem Lx.all {n : Nat} {r : Cd} {ps : List (Nat × Cd)} (h : Lx n r ps) : (ps.map fun p => p.2.length).sum ≤ r.length ∧ ∀ p ∈ ps, Tok p.2 ∧ p.1 < n + r.length := by
  induction h with
  | nil => exact ⟨Nat.le_refl _, fun _ h => by cases h⟩
  | gap _ _ ih => exact ⟨by rw [List.length_cons]; omega, fun p hp => ⟨(ih.2 p hp).1, by have := (ih.2 p hp).2; rw [List.length_cons]; omega⟩⟩
  | rem _ _ _ ih => exact ⟨by rw [List.length_cons, List.length_append]; omega, fun p hp => ⟨(ih.2 p hp).1, by have := (ih.2 p hp).2; rw [List.length_cons, List.length_append]; omega⟩⟩
  | tok ht _ _ ih =>
    refine ⟨by rw [List.map_cons, List.sum_cons, List.length_append]; exact Nat.add_le_add_left ih.1 _, fun p hp => ?_⟩
    rcases List.mem_cons.mp hp with e | e
    · rw [e]
      refine ⟨ht, ?_⟩
      have := List.length_pos_iff.mpr ht.ne
      rw [List.length_append]
      show _ < _
      omega
    · exact ⟨(ih.2 p e).1, by have := (ih.2 p e).2; rw [List.length_append]; omega⟩
/-- a token as data -/
def dT (p : Nat × Cd) : PyData := .tuple [.int (p.1 : Nat), .str (S p.2)]
def dL (ps : List (Nat × Cd)) : PyData := .list (ps.map dT)
end M02

set_option Elab.async false
set_option linter.all false
set_option maxRecDepth 100000
set_option maxHeartbeats 4000000
/-! how long the text of a list of tokens is -/
namespace M02
open PySem PySem.Spec PyProof.Rows L2 GL GT
theorem cs_sjoin (ys : List Str) : cs (Str.join ", " ys) = TL.joinL [44, 32] (ys.map cs) := by
  have e : Txt.join ", " ys = Str.join ", " ys := StrLaws.glued_eq_join ", " ys
  rw [← e, cs_join, show cs ", " = [44, 32] by decide +kernel]
theorem len_joinL : ∀ ls : List Cd, (TL.joinL [44, 32] ls).length ≤ (ls.map fun l => l.length + 2).sum
  | [] => Nat.le_refl _
  | [a] => by simp [TL.joinL]
  | a :: b :: r => by
    have ih := len_joinL (b :: r)
    have e : TL.joinL [44, 32] (a :: b :: r) = a ++ ([44, 32] ++ TL.joinL [44, 32] (b :: r)) := rfl
    rw [e, List.length_append, List.length_append, List.map_cons, List.sum_cons]
    show a.length + (2 + _) ≤ _
    omega
theorem dT_shown {p : Nat × Cd} (h : Tok p.2) (hn : p.1 < 1000000) : (cs (PyData.shown (dT p))).length ≤ 15 * p.2.length := by
  have e : PyData.shown (dT p) = tupleText [Str.ofString (toString ((p.1 : Nat) : Int)), reprText (S p.2)] := rfl
  have h1 := int_text_length_le10 (a := ((p.1 : Nat) : Int)) (k := 6) (by decide) (by simpa using hn)
  have h2 := repr2 (x := S p.2) (by rw [cs_S]; exact h.asc)
  have h3 := List.length_pos_iff.mpr h.ne
  rw [len_S, len_cs] at h2
  have h4 : (cs (Str.ofString (toString ((p.1 : Nat) : Int)))).length ≤ 7 := by
    rw [← len_cs, PySem.ofString_length]
    exact h1
  rw [e]
  unfold tupleText
  rw [cs_app, cs_app, cs_sjoin]
  show ([40] ++ (cs _ ++ ([44, 32] ++ cs _)) ++ [41]).length ≤ _
  simp only [List.length_append, List.length_cons, List.length_nil]
  omega
theorem shownAll_map (f : Nat × Cd → PyData) : ∀ ps : List (Nat × Cd), PyData.shownAll (ps.map f) = ps.map fun p => PyData.shown (f p)
  | [] => rfl
  | p :: r => by
    rw [List.map_cons, PyData.shownAll, shownAll_map f r]
    rfl
theorem sum_le : ∀ {ps : List (Nat × Cd)}, (∀ p ∈ ps, Tok p.2 ∧ p.1 < 1000000) → (((ps.map fun p => PyData.shown (dT p)).map cs).map fun l => l.length + 2).sum ≤ 17 * (ps.map fun p => p.2.length).sum
  | [], _ => Nat.le_refl _
  | p :: r, h => by
    have ih := sum_le (ps := r) fun q hq => h q (List.mem_cons_of_mem _ hq)
    obtain ⟨ht, hn⟩ := h p List.mem_cons_self
    have h1 := dT_shown ht hn
    have h3 := List.length_pos_iff.mpr ht.ne
    simp only [List.map_cons, List.sum_cons]
    simp only [List.map_map] at ih ⊢
    omega
theorem len_from : ∀ (ts : List Str) (i : Nat) (acc : Str), (cs (textFrom i acc ts)).length ≤ (cs acc).length + ((ts.map cs).map fun l => l.length + 2).sum
  | [], i, acc => Nat.le_refl _
  | t :: r, i, acc => by
    have h2 : (cs ", ").length = 2 := by decide +kernel
    have h0 : (cs "").length = 0 := by decide +kernel
    unfold textFrom
    simp only [List.map_cons, List.sum_cons]
    split
    all_goals
      refine Nat.le_trans (len_from r _ _) ?_
      simp only [cs_app, List.length_append]
      omega
theorem dL_shown {T : Cd} {ps : List (Nat × Cd)} (h : Lx 0 T ps) (hT : T.length ≤ 900000) : (PyData.shown (dL ps)).length ≤ sizeLine := by
  obtain ⟨h1, h2⟩ := h.all
  have h3 := sum_le (ps := ps) fun p hp => ⟨(h2 p hp).1, by have := (h2 p hp).2; omega⟩
  have h4 := len_joinL ((ps.map fun p => PyData.shown (dT p)).map cs)
  have e : PyData.shown (dL ps) = listText (ps.map fun p => PyData.shown (dT p)) := by
    show listText (PyData.shownAll (ps.map dT)) = _
    rw [shownAll_map]
  rw [e, len_cs]
  unfold listText
  rw [cs_app, List.length_append]
  have h5 := len_from (ps.map fun p => PyData.shown (dT p)) 0 "["
  have h6 : (cs "[").length = 1 := by decide +kernel
  have h7 : (cs "]").length = 1 := by decide +kernel
  refine Nat.le_trans (m := 16777216) ?_ (by decide)
  omega
end M02

set_option Elab.async false
set_option linter.all false
set_option maxRecDepth 100000
set_option maxHeartbeats 4000000
/-! lists of tokens as data: their shape -/
namespace M02
open PySem PySem.Spec PyProof.Rows L2 GL GT
/-- signs of ASCII -/
def Asc (p : Nat × Cd) : Prop := ∀ c ∈ p.2, 32 ≤ c ∧ c ≤ 126
theorem lay_dT {p : Nat × Cd} (h : Asc p) : (dT p).canLay0 = true := by
  have e : PyData.strOk (S p.2) = true := by
    unfold PyData.strOk
    rw [Array.all_eq_true']
    intro c hc
    have : c ∈ cs (S p.2) := Array.mem_toList_iff.mpr hc
    rw [cs_S] at this
    have := h c this
    simp only [decide_eq_true_eq]
    omega
  show (true && (PyData.strOk (S p.2) && true)) = true
  rw [e]
  rfl
theorem lay_all : ∀ {ps : List (Nat × Cd)}, (∀ p ∈ ps, Asc p) → PyData.canLayAll0 (ps.map dT) = true
  | [], _ => rfl
  | p :: r, h => by
    rw [List.map_cons, PyData.canLayAll0, lay_dT (h p List.mem_cons_self), lay_all fun q hq => h q (List.mem_cons_of_mem _ hq)]
    rfl
theorem dep_all : ∀ {ps : List (Nat × Cd)}, PyData.depthAll (ps.map dT) ≤ 1
  | [] => Nat.zero_le _
  | p :: r => by
    rw [List.map_cons, PyData.depthAll]
    have h1 : (dT p).depth = 1 := rfl
    have := dep_all (ps := r)
    omega
theorem shp {ps : List (Nat × Cd)} (h : ∀ p ∈ ps, Asc p) : SeqAt.shaped (dL ps) = true ∧ SeqAt.shaped (.tuple (ps.map dT)) = true := by
  have h1 := lay_all h
  have h2 := dep_all (ps := ps)
  refine ⟨Bool.and_eq_true_iff.mpr ⟨h1, decide_eq_true ?_⟩, Bool.and_eq_true_iff.mpr ⟨h1, decide_eq_true ?_⟩⟩
  · show PyData.depthAll (ps.map dT) + 1 ≤ 64
    omega
  · show PyData.depthAll (ps.map dT) + 1 ≤ 64
    omega
theorem shw_all : ∀ {ps : List (Nat × Cd)}, (∀ p ∈ ps, p.1 < 2 ^ 60) → PyData.showableAll (ps.map dT) = true
  | [], _ => rfl
  | p :: r, h => by
    have h1 : (dT p).showable = true := by
      have : ((p.1 : Nat) : Int).natAbs.log2 < 1920 := log_le (by have := h p List.mem_cons_self; simpa using this)
      show (decide (((p.1 : Nat) : Int).natAbs.log2 < 1920) && (true && true)) = true
      rw [decide_eq_true this]
      rfl
    rw [List.map_cons, PyData.showableAll, h1, shw_all fun q hq => h q (List.mem_cons_of_mem _ hq)]
    rfl
end M02

set_option Elab.async false
set_option linter.all false
set_option maxRecDepth 100000
set_option maxHeartbeats 4000000
/-! one text: _law_right -/
namespace M02
open PySem PySem.Spec PyProof.Rows L2 GL GT
theorem scR1 : FnScope ["_law_box_here", "_law_page", "_law_due", "_law_many", "_law_found", "_law_pair"] ["_law_box_here", "_law_page", "_law_due"] (defScope sRight) := ⟨rfl, rfl, rfl, by decide +kernel, rfl, by decide +kernel, by decide +kernel⟩
def gK : List V → List V → List V
  | [], [v] => [v]
  | _, _ => []
def gKv : List Value → List Value → List Value
  | [], [v] => [v]
  | _, _ => []
theorem gK_rel : ∀ {vs : List V} {us : List Value} {zs : List V} {ws : List Value}, Vals vs us → Vals zs ws → Vals (gK vs zs) (gKv us ws)
  | _, _, _, _, .cons _ _, _ => .nil
  | _, _, _, _, .nil, .nil => .nil
  | _, _, _, _, .nil, .cons p .nil => .cons p .nil
  | _, _, _, _, .nil, .cons _ (.cons _ _) => .nil
/-- tokens, as a caller wants it -/
structure DnT (P : Program) (w : World) (K : PySem.W.Frag) (mg : Str → Option Value) (base : Heap) where
  f : Addr
  fd : FuncData
  ok : GFnT P w K mg base 3 f fd ["text"] spTok
  g : mg "tokens" = some (.ref f)
  kp : PySem.W.keepIn K (.ref f) = true
  b : Binds K fd ["text"] []
  kb : KBinds K fd ["text"] ["text"] gKv gK
/-- tokens in the heap, as data -/
theorem dvs_of {K : PySem.W.Frag} {H : Hp} : ∀ {ts : List Addr} {ps : List (Nat × Cd)}, Tups H ts (outV ps) → DVs K H (refs ts) (ps.map dT)
  | [], [], _ => .nil
  | t :: r, p :: q, h => by
    have h0 : H t = some (.tup [.int (p.1 : Nat), .str (S p.2)]) := h.2 0 t _ rfl rfl
    refine .cons (.tup (SqT.of h0) (.cons (.int _) (.cons (.str _) .nil))) (dvs_of ⟨Nat.succ.inj (show r.length + 1 = (outV q).length + 1 from h.1), fun j t' xs h1 h2 => h.2 (j + 1) t' xs h1 h2⟩)
  | [], _ :: _, h => by have := h.1; simp [outV] at this
  | _ :: _, [], h => by have := h.1; simp [outV] at this
theorem dps_of {K : PySem.W.Frag} {H : Hp} : ∀ {ts : List Addr} {ps : List (Nat × Cd)}, Tups H ts (outV ps) → DpAll K H (refs ts) (ps.map dT)
  | [], [], _ => .nil
  | t :: r, p :: q, h => by
    have h0 : H t = some (.tup [.int (p.1 : Nat), .str (S p.2)]) := h.2 0 t _ rfl rfl
    refine .cons (.tup (SqT.of h0) (.cons (.int _) (.cons (.str _) .nil))) (dps_of ⟨Nat.succ.inj (show r.length + 1 = (outV q).length + 1 from h.1), fun j t' xs h1 h2 => h.2 (j + 1) t' xs h1 h2⟩)
  | [], _ :: _, h => by have := h.1; simp [outV] at this
  | _ :: _, [], h => by have := h.1; simp [outV] at this
theorem cnt_le : ∀ {ps : List (Nat × Cd)}, (∀ p ∈ ps, Tok p.2) → ps.length ≤ (ps.map fun p => p.2.length).sum
  | [], _ => Nat.le_refl _
  | p :: r, h => by
    have ih := cnt_le (ps := r) fun q hq => h q (List.mem_cons_of_mem _ hq)
    have h3 := List.length_pos_iff.mpr (h p List.mem_cons_self).ne
    rw [List.map_cons, List.sum_cons, List.length_cons]
    omega
/-- a test of which only this is known, and what follows -/
theorem ifs_seq {t : TT} {a b u : TS} {D : Ends} {σ : L2.St} {H : Hp} {R : Bool → Hp → Prop} (h : ∀ Q' : Bool → Hp → Prop, (∀ c H', R c H' → Q' c H') → t σ H Q') (q : ∀ c H', R c H' → tSeq (fun D σ H => if c = true then a D σ H else b D σ H) u D σ H') : tSeq (tIfS t a b) u D σ H := h _ q
theorem ifs_no {t : TT} {a b u : TS} {D : Ends} {σ : L2.St} {H : Hp} {R : Hp → Prop} (h : ∀ Q' : Bool → Hp → Prop, (∀ H', R H' → Q' false H') → t σ H Q') (q : ∀ H', R H' → tSeq b u D σ H') : tSeq (tIfS t a b) u D σ H := h _ q
section
variable {P : Program} {w : World} {K : PySem.W.Frag} {mg : Str → Option Value} {base : Heap}
def spRight : Sp := fun vs H Q _ => ∃ (b D : Addr) (n : Nat) (T : Cd) (ps : List (Nat × Cd)) (ts : List Addr), vs = [.ref b, .str (S T), .ref D] ∧ Box H b n ∧ n < 990000 ∧ T.length ≤ 900000 ∧ Lx 0 T ps ∧ H D = some (.lst (refs ts)) ∧ D ≠ b ∧ D ≠ sysModules ∧ Tups H ts (outV ps) ∧ (∀ t ∈ ts, t ≠ b) ∧ ∀ H', Off b H H' → Box H' b (n + 1) → Q (.bl true) H'
theorem ok_right {f : Addr} {fd : FuncData} (F : Fun K "_law_right" "_law_right" sRight f fd) (T : Bl K mg) (d_take : DnG P w K mg base "_law_take" 1 ["_law_box_here", "_law_many"] spTake) (d_own : DnG P w K mg base "_law_tokens" 3 ["_law_page"] spLL) (d_tokens : DnT P w K mg base) : FnG P w K mg base CX0 8 f fd ["_law_box_here", "_law_page", "_law_due"] spRight := by
  refine okG0 F scR1 (fun vs H Q E h => ?_) (fun cdv A outer s H vs Q E hr hG h => ?_)
  · obtain ⟨_, _, _, _, _, _, rfl, _⟩ := h
    rfl
  · obtain ⟨b, D, n, Tx, ps, ts, rfl, hB, hn, hT, hx, hD, Db, Ds, hts, htb, q⟩ := h
    have kb_tokens := d_tokens.kb
    refine ⟨_, (pss_cons (ps_if (PW.pt (pw_or (pt_cmpR (op_neD hr.units) (pe_op op_cat (pv 2) (pe_lst (pa_cons (pe_tup (pa_cons (pe_callB call_len_str (by rfl) T.len (by decide +kernel) (pa_cons (pv 1) pa_nil)) (pa_cons pe_str pa_nil))) pa_nil))) (pe_callG d_own.ok (hr.mono (by omega)) hG (by rfl) d_own.g d_own.kp d_own.b .nil pass0 (pa_cons (pv 1) pa_nil)) (nomark _)) (pw_or1 (pt_cmpR op_ne (pe_callB (r := rRepr K) (call_reprD hG hr.units) (by rfl) T.repr (by decide +kernel) (pa_cons (pe_listT (pgt_call d_tokens.ok (hr.mono (by omega)) (by rfl) d_tokens.g d_tokens.kp d_tokens.b (pa_cons (pv 1) pa_nil)) (hr.mono (by omega)) (by rfl) T.list (by decide +kernel)) pa_nil)) (pe_callB (r := rRepr K) (call_reprD hG hr.units) (by rfl) T.repr (by decide +kernel) (pa_cons (pv 2) pa_nil)) (nomark _)))))
        (pss_one (ps_ret pe_bl))
        pss_nil)
      (pss_cons (ps_par (i := 3) (j := 4) (by rfl) scR1.nd rfl rfl (by decide) rfl rfl (pa_cons (pe_callG d_take.ok (hr.mono (by omega)) hG (by rfl) d_take.g d_take.kp d_take.b .nil pass0 (pa_cons (pv 0) (pa_cons (pe_op op_add (pe_callB call_len_seq (by rfl) T.len (by decide +kernel) (pa_cons (pv 2) pa_nil)) pe_int) pa_nil))) (pa_cons (pe_lst pa_nil) pa_nil)) (by rfl))
      (pss_cons (ps_forT (iF := 4) (iM := 3) (iP := 5) PassesOwn.never (pgt_callK d_tokens.ok (hr.mono (by omega)) (by rfl) d_tokens.g d_tokens.kp kb_tokens (pk_cons (pv 1) pk_nil)) (hr.mono (by omega)) rfl scR1.nd rfl rfl rfl rfl rfl rfl (by decide) (by decide) (by rfl) T.len)
      (pss_one (ps_ret (pe_and (pe_cmpR (op_eqD hr.units) (pv 4) (pe_slice sl_list (pv 2) po_none (po_some (pv 3))) (nomark _)) (pe_one (pe_cmpR (op_eqD hr.units) (pe_tupT (pgt_call d_tokens.ok (hr.mono (by omega)) (by rfl) d_tokens.g d_tokens.kp d_tokens.b (pa_cons (pv 1) pa_nil)) (hr.mono (by omega)) (by rfl) T.tuple (by decide +kernel)) (pe_callTy call_tuple_of (by rfl) T.tuple (by decide +kernel) (pa_cons (pv 2) pa_nil)) (nomark _))))))))), ?_⟩
    obtain ⟨hs1, hs2⟩ := hx.all
    have hol : ps.length ≤ 900000 := Nat.le_trans (cnt_le fun p hp => (hs2 p hp).1) (by omega)
    have hA : ∀ p ∈ ps, Asc p := fun p hp => (hs2 p hp).1.asc
    refine ifs_no (R := fun H' => Same H H') (fun Q' q' => ?_) (fun H1 s1 => ?_)
    · have lS : (S Tx).length = Tx.length := len_S Tx
      refine ⟨.ref D, rfl, .str (S Tx), rfl, _, rfl, big_le (by omega), by show 2 ≤ sizeLine; decide, fun t0 nt0 => ⟨by show 1 ≤ sizeLine; decide, fun l1 nl1 => ?_⟩⟩
      rw [lS] at nl1 ⊢
      have sA := (same_new (o := .tup [.int (Tx.length : Nat), .str ""]) nt0).trans (same_new (o := .lst [.ref t0]) nl1)
      have g0 : (upd (upd H t0 (.tup [.int (Tx.length : Nat), .str ""])) l1 (.lst [.ref t0])) t0 = some (.tup [.int (Tx.length : Nat), .str ""]) := same_new nl1 _ _ upd_same
      have g1 : (upd (upd H t0 (.tup [.int (Tx.length : Nat), .str ""])) l1 (.lst [.ref t0])) l1 = _ := upd_same
      generalize upd (upd H t0 (.tup [.int (Tx.length : Nat), .str ""])) l1 (.lst [.ref t0]) = H2 at sA g0 g1
      refine ⟨D, l1, refs ts, [.ref t0], rfl, rfl, sA _ _ hD, g1, ?_, fun l2 nl2 => ?_⟩
      · have := hts.1
        unfold outV at this
        rw [List.length_map] at this
        refine big_le ?_
        show (ts.map V.ref).length + 1 ≤ _
        rw [List.length_map]
        omega
      have sB := sA.trans (same_new (o := .lst (refs ts ++ [.ref t0])) nl2)
      have g2 : (upd H2 l2 (.lst (refs ts ++ [.ref t0]))) l2 = _ := upd_same
      have g02 := same_new (o := .lst (refs ts ++ [.ref t0])) nl2 _ _ g0
      generalize upd H2 l2 (.lst (refs ts ++ [.ref t0])) = H3 at sB g2 g02
      refine ⟨.str (S Tx), rfl, Tx, ps, rfl, by omega, hx, fun H4 l4 ts4 s4 n4 h4 tu4 _ _ => ?_⟩
      have hA2 : ∀ p ∈ ps ++ [(Tx.length, [])], Asc p := fun p hp => by
        rcases List.mem_append.mp hp with e | e
        · exact hA p e
        · rw [List.mem_singleton.mp e]
          exact fun c hc => by cases hc
      have tuA : Tups H4 (ts ++ [t0]) (outV (ps ++ [(Tx.length, [])])) := by
        have e : outV (ps ++ [(Tx.length, [])]) = outV ps ++ [[.int (Tx.length : Nat), .str ""]] := by
          unfold outV
          rw [List.map_append]
          rfl
        rw [e]
        refine Tups.app (hts.mono fun t _ o ho => s4 _ _ (sB _ _ ho)) ⟨rfl, fun j t xs h1 h2 => ?_⟩
        match j, h1, h2 with
        | 0, h1, h2 =>
          cases h1
          cases h2
          exact s4 _ _ g02
        | _ + 1, h1, _ => simp at h1
      have eR : refs ts ++ [V.ref t0] = refs (ts ++ [t0]) := by simp [refs]
      rw [eR] at g2
      obtain ⟨hsh, _⟩ := shp hA2
      refine ⟨dL (ps ++ [(Tx.length, [])]), dL (ps ++ [(Tx.length, [])]), .lst (SqL.of (s4 _ _ g2)) (dps_of tuA), .lst (SqL.of h4) (dps_of tu4), hsh, hsh, _, rfl, ?_⟩
      rw [show PyData.eqv (dL (ps ++ [(Tx.length, [])])) (dL (ps ++ [(Tx.length, [])])) = true from SeqAt.eqv_refl _ (lay_all hA2)]
      have s04 := sB.trans s4
      refine iteF ⟨.str (S Tx), rfl, outV ps, ⟨Tx, ps, rfl, by omega, hx, rfl⟩, big_le (by unfold outV; rw [List.length_map]; omega), fun S5 ts5 H5 n5 ns5 l5 h5 gr => ?_⟩
      have s5 : Same H4 H5 := fun a o e => gr.1 a o (fun z => by rw [z, n5] at e; cases e) e
      have tu5 : Tups H5 ts5 (outV ps) := ⟨l5, gr.tup⟩
      have tuD : Tups H5 ts (outV ps) := hts.mono fun t _ o ho => s5 _ _ (s04 _ _ ho)
      have hsw : (dL ps).showable = true := shw_all fun p hp => by have := (hs2 p hp).2; omega
      have hdp : (dL ps).depth ≤ 60 := by
        have := dep_all (ps := ps)
        show PyData.depthAll (ps.map dT) + 1 ≤ 60
        omega
      refine ⟨.ref S5, dL ps, rfl, .lst (SqL.of h5) ns5 (dvs_of tu5), hsw, hdp, dL_shown hx hT, .ref D, rfl, .ref D, dL ps, rfl, .lst (SqL.of (s5 _ _ (s04 _ _ hD))) Ds (dvs_of tuD), hsw, hdp, dL_shown hx hT, rfl, _, rfl, ?_⟩
      rw [show (!decide (V.str (PyData.shown (dL ps)) = V.str (PyData.shown (dL ps)))) = false by simp]
      exact q' _ (s04.trans s5)
    · have B1 := hB.same s1
      have hD1 := s1 _ _ hD
      have htl : ts.length = ps.length := by
        have := hts.1
        unfold outV at this
        rw [List.length_map] at this
        exact this
      refine ⟨.ref b, rfl, .ref D, rfl, D, _, rfl, .inl (SqL.of hD1), _, _, rfl, rfl, b, _, n, rfl, B1, by omega, ?_, ?_, fun r u r0 r1 B2 => ⟨Nat.zero_le _, fun L nL => ⟨_, _, rfl, ?_⟩⟩⟩
      · show (0 : Int) < ((refs ts).length : Nat) + 1
        omega
      · show (((refs ts).length : Nat) : Int) + 1 < 1000000
        have : (refs ts).length = ts.length := List.length_map _
        omega
      obtain ⟨m, rfl⟩ := Int.eq_ofNat_of_zero_le r0
      have hm : m ≤ ps.length := by
        have : (refs ts).length = ts.length := List.length_map _
        have r1 : (m : Int) < ((refs ts).length : Nat) + 1 := r1
        omega
      have Lb := B2.ne nL
      have o2 : Off b H1 (upd H1 b u) := Off.box
      have B3 := B2.new (u := .lst []) Lb
      have o3 := o2.trans (Off.new (u := .lst []) nL)
      have h3 : (upd (upd H1 b u) L (.lst [])) L = some (.lst []) := upd_same
      generalize upd (upd H1 b u) L (.lst []) = H3 at B3 o3 h3
      have hol2 : (outV ps).length = ps.length := List.length_map _
      refine ⟨.str (S Tx), rfl, outV ps, ⟨Tx, ps, rfl, by omega, hx, rfl⟩, L, m, rfl, rfl, h3, Nat.lt_of_le_of_lt (by omega : (outV ps).length ≤ 900000) (by decide), by omega, fun σ' H4 t4 hσ l4 h4 gr => ?_⟩
      have nL1 : H1 L = none := o2.none Lb nL
      have o14 : Off b H1 H4 := fun a o na e => gr.old a o (fun z => by rw [z, nL1] at e; cases e) (o3 a o na e)
      have B4 : Box H4 b (n + 1) := by
        obtain ⟨o', m', c', h', r'⟩ := B3
        exact ⟨o', m', c', gr.old b _ Lb.symm h', r'⟩
      have hD4 := o14.mem Db hD1
      have tu4 : Tups H4 t4 (outV (ps.take m)) := by
        have e : outV (ps.take m) = (outV ps).take m := by unfold outV; rw [List.map_take]
        rw [e]
        refine ⟨by rw [l4, List.length_take]; omega, fun j t xs h1 h2 => gr.tup j t xs h1 ?_⟩
        rw [List.getElem?_take] at h2
        split at h2
        · exact h2
        · cases h2
      have tuD : Tups H4 ts (outV ps) := hts.mono fun t ht o ho => o14 _ _ (htb t ht) (s1 _ _ ho)
      have tuC : Tups H4 (ts.take m) (outV (ps.take m)) := by
        have e : outV (ps.take m) = (outV ps).take m := by unfold outV; rw [List.map_take]
        rw [e]
        refine ⟨by rw [List.length_take, List.length_take, hol2, htl], fun j t xs h1 h2 => tuD.2 j t xs ?_ ?_⟩
        · rw [List.getElem?_take] at h1
          split at h1
          · exact h1
          · cases h1
        · rw [List.getElem?_take] at h2
          split at h2
          · exact h2
          · cases h2
      have hAm : ∀ p ∈ ps.take m, Asc p := fun p hp => hA p (List.mem_of_mem_take hp)
      have hcut : cutV (refs ts) none (some (m : Int)) = refs (ts.take m) := by
        unfold cutV
        have : (refs ts).length = ts.length := List.length_map _
        rw [HT.sIx_none, HT.sIx_nat, List.drop_zero, this, Nat.min_eq_left (by omega), Nat.sub_zero]
        show (ts.map V.ref).take m = (ts.take m).map V.ref
        rw [List.map_take]
      obtain ⟨y5, rfl⟩ : ∃ y5 : Option V, σ' = [some (.ref b), some (.str (S Tx)), some (.ref D), some (.int (m : Nat)), some (.ref L), y5] := by
        rcases hσ with rfl | ⟨x, rfl⟩
        · exact ⟨none, rfl⟩
        · exact ⟨some x, rfl⟩
      obtain ⟨hsm, _⟩ := shp hAm
      obtain ⟨_, hst⟩ := shp hA
      refine ⟨.ref L, rfl, .ref D, rfl, .int (m : Nat), rfl, _, rfl, D, _, rfl, SqL.of hD4, fun p5 np5 => ?_⟩
      rw [hcut]
      have s5 : Same H4 (upd H4 p5 (.lst (refs (ts.take m)))) := same_new np5
      have g5 : (upd H4 p5 (.lst (refs (ts.take m)))) p5 = some (.lst (refs (ts.take m))) := upd_same
      generalize upd H4 p5 (.lst (refs (ts.take m))) = H5 at s5 g5
      refine ⟨dL (ps.take m), dL (ps.take m), .lst (SqL.of (s5 _ _ h4)) (dps_of (tu4.mono fun t _ o ho => s5 _ _ ho)), .lst (SqL.of g5) (dps_of (tuC.mono fun t _ o ho => s5 _ _ ho)), hsm, hsm, true, by rw [show PyData.eqv (dL (ps.take m)) (dL (ps.take m)) = true from SeqAt.eqv_refl _ (lay_all hAm)], iteT ?_⟩
      have B5 := B4.same s5
      have hD5 := s5 _ _ hD4
      have tuD5 : Tups H5 ts (outV ps) := tuD.mono fun t _ o ho => s5 _ _ ho
      refine ⟨.str (S Tx), rfl, outV ps, ⟨Tx, ps, rfl, by omega, hx, rfl⟩, big_le (by omega), fun S6 T6 t6 H6 n6 nT6 l6 gr6 => ?_⟩
      have s6 : Same H5 H6 := fun a o e => gr6.old a o (fun z => by rw [z, n6] at e; cases e) e
      have tu6 : Tups H6 t6 (outV ps) := ⟨l6, gr6.tup⟩
      have s7 : Same H6 (upd H6 T6 (.tup (refs t6))) := same_new nT6
      have g7 : (upd H6 T6 (.tup (refs t6))) T6 = some (.tup (refs t6)) := upd_same
      generalize upd H6 T6 (.tup (refs t6)) = H7 at s7 g7
      have s57 := s6.trans s7
      refine ⟨.ref D, rfl, D, refs ts, rfl, .inl ⟨SqL.of (s57 _ _ hD5), fun l8 n8 => ?_⟩⟩
      have s8 : Same H7 (upd H7 l8 (.tup (refs ts))) := same_new n8
      have g8 : (upd H7 l8 (.tup (refs ts))) l8 = some (.tup (refs ts)) := upd_same
      generalize upd H7 l8 (.tup (refs ts)) = H8 at s8 g8
      refine ⟨.tuple (ps.map dT), .tuple (ps.map dT), .tup (SqT.of (s8 _ _ g7)) (dps_of (tu6.mono fun t _ o ho => s8 _ _ (s7 _ _ ho))), .tup (SqT.of g8) (dps_of (tuD5.mono fun t _ o ho => s8 _ _ (s57 _ _ ho))), hst, hst, ?_⟩
      rw [show PyData.eqv (.tuple (ps.map dT)) (.tuple (ps.map dT)) = true from SeqAt.eqv_refl _ (lay_all hA)]
      have s48 := (s5.trans s57).trans s8
      exact q H8 (fun a o na e => s48 _ _ (o14 a o na (s1 a o e))) (B4.same s48)
end
end M02

set_option Elab.async false
set_option linter.all false
set_option maxRecDepth 100000
set_option maxHeartbeats 4000000
/-! the law's own def -/
namespace M02
open PySem PySem.Spec PyProof.Rows L2 GL GT
theorem scLw : FnScope ["_law_script", "_law_k", "_law_box_here", "_law_turn", "_law_page", "_law_due"] ["_law_script"] (defScope sLaw) := ⟨rfl, rfl, rfl, by decide +kernel, rfl, by decide +kernel, by decide +kernel⟩
section
variable {X : Cx}
/-- a slice of a list: a new list, none of the system's own -/
def rSlLB (K : PySem.W.Frag) : V → Option Int → Option Int → Hp → VK → Prop := fun z lo hi H Q => ∃ (l : Addr) (zs : List V), z = .ref l ∧ SqL K H l zs ∧ ∀ (m : Addr), H m = none → m ≠ sysModules → Q (.ref m) (upd H m (.lst (cutV zs lo hi)))
theorem sl_listB : SlR X (rSlLB X.K) := by
  intro pins s σ H z v vl vu lo hi sl Q I rz hs pl pu h
  obtain ⟨l, zs, rfl, hz0, q⟩ := h
  cases rz
  obtain ⟨its, r, ht, hz⟩ := I.list hz0
  have hn := r.length
  have sz : its.toArray.size ≤ sizeLine := by
    rw [List.size_toArray]
    omega
  refine ⟨"list", _, slot_list_getitem.lookup, ht.isList.typeIs, wpAny_getItem_list_slice ht.isList hs pl pu .none (by simp) ?_ sz⟩
  rw [slicePick_cut, ← hn]
  have fits : (cutV zs lo hi).length ≤ sizeLine := Nat.le_trans (cutV_length zs lo hi) hz
  have J := I.laid (h' := s.heap.push { cls := .type "list", data := .seq ((its.drop (HT.sIx zs.length 0 lo)).take (HT.sIx zs.length zs.length hi - HT.sIx zs.length 0 lo)).toArray }) (t' := s.toks) (o := .lst (cutV zs lo hi)) (fun a o e => Heap.get?_push_of_some _ e) (Nat.le_refl _)
    ⟨fits, _, 0, (r.drop (HT.sIx zs.length 0 lo)).take (HT.sIx zs.length zs.length hi - HT.sIx zs.length 0 lo), Heap.get?_push_size _ rfl⟩
  exact ⟨.ref s.heap.objs.size, _, J, rfl, q _ (I.hok.fresh (Nat.le_refl _)) (Nat.ne_of_gt I.big)⟩
end
theorem lx_none : Lx 0 (cs "") [] := by
  rw [show cs "" = [] by decide +kernel]
  exact .nil
theorem lx_three : Lx 0 (cs "3b\"\"") [(0, [51]), (1, [98]), (2, [34, 34])] := by
  rw [show cs "3b\"\"" = [51] ++ ([98] ++ ([34, 34] ++ [])) by decide +kernel]
  have m1 : (51 : Nat) ∈ digs := by decide +kernel
  have m2 : (98 : Nat) ∈ lets := by decide +kernel
  have n1 : (98 : Nat) ∉ digs := by decide +kernel
  have n2 : (51 : Nat) ∉ lets := by decide +kernel
  have n3 : (34 : Nat) ∉ lets := by decide +kernel
  refine .tok (.num (by simp) (fun c hc => by rw [List.mem_singleton.mp hc]; exact m1) (fun _ => rfl)) (fun c d hc hd => ?_) (.tok (.word (by simp) (fun c hc => by rw [List.mem_singleton.mp hc]; exact m2)) (fun c d hc hd => ?_) (.tok (.str (b := []) ⟨by simp, fun c hc => by cases hc⟩) (fun c d hc hd => by cases hc) .nil))
  · cases hc
    cases hd
    exact ⟨fun h => absurd h n2, fun _ => n1⟩
  · cases hc
    cases hd
    exact ⟨fun _ => n3, fun h => absurd h (by decide +kernel)⟩
section
variable {P : Program} {w : World} {K : PySem.W.Frag} {mg : Str → Option Value} {base : Heap}
def spLaw (K : PySem.W.Frag) : Sp := fun vs H Q _ => ∃ (a : Addr) (ns : List Int), vs = [.ref a] ∧ SqL K H a (ns.map V.int) ∧ ns.length ≤ 63 ∧ ∀ H', Q (.bl true) H'
theorem ok_law {f : Addr} {fd : FuncData} (F : Fun K "law" "law" sLaw f fd) (T : Bl K mg) (d_box : DnG P w K mg base "_law_box" 1 ["_law_script", "_law_k"] (spBox K)) (d_put_together : DnG P w K mg base "_law_put_together" 4 ["_law_box_here"] spPut)
    (d_right : DnG P w K mg base "_law_right" 8 ["_law_box_here", "_law_page", "_law_due"] spRight) (d_text : DnG P w K mg base "_law_text" 12 ["_law_box_here", "_law_book_here"] spText) (d_book : DnG P w K mg base "_law_book" 11 ["_law_box_here", "_law_most"] spBook)
    (d_own : DnG P w K mg base "_law_tokens" 3 ["_law_page"] spLL) (d_tokens : DnT P w K mg base) : FnG P w K mg base CX0 13 f fd ["_law_script"] (spLaw K) := by
  refine okG0 F scLw (fun vs H Q E h => ?_) (fun cdv A outer s H vs Q E hr hG h => ?_)
  · obtain ⟨a, ns, rfl, _⟩ := h
    rfl
  · obtain ⟨a, ns, rfl, hS, hlen, q⟩ := h
    refine ⟨_, (pss_cons (ps_for PassesOwn.never rfl (pi_range1 (by rfl) T.range (pa_cons (pe_callB (call_max2 rfl) (by rfl) T.max (by decide +kernel) (pa_cons pe_int (pa_cons (pe_callB (call_min2 rfl) (by rfl) T.min (by decide +kernel) (pa_cons pe_int (pa_cons (pe_callB call_len_seq (by rfl) T.len (by decide +kernel) (pa_cons (pv 0) pa_nil)) pa_nil))) pa_nil))) pa_nil)) (pg_name (i := 1) scLw.nd rfl (Or.inl rfl))
        (pss_cons (ps_set (i := 2) scLw.nd rfl (Or.inl rfl) (pe_callG d_box.ok (hr.mono (by omega)) hG (by rfl) d_box.g d_box.kp d_box.b .nil pass0 (pa_cons (pv 0) (pa_cons (pv 1) pa_nil))))
        (pss_cons (ps_for PassesOwn.never rfl (pi_range1 (by rfl) T.range (pa_cons pe_int pa_nil)) (pg_name (i := 3) scLw.nd rfl (Or.inl rfl))
          (pss_cons (ps_asg (pe_callG d_put_together.ok (hr.mono (by omega)) hG (by rfl) d_put_together.g d_put_together.kp d_put_together.b .nil pass0 (pa_cons (pv 2) pa_nil)) (pg_tup rfl (pgs_cons (pg_name (i := 4) scLw.nd rfl (Or.inl rfl)) (pgs_cons (pg_name (i := 5) scLw.nd rfl (Or.inl rfl)) pgs_nil))))
          (pss_one (ps_if (pt_not (pt_val (pe_callG d_right.ok (hr.mono (by omega)) hG (by rfl) d_right.g d_right.kp d_right.b .nil pass0 (pa_cons (pv 2) (pa_cons (pv 4) (pa_cons (pv 5) pa_nil))))))
            (pss_one (ps_ret pe_bl))
            pss_nil))))
        (pss_cons (ps_set (i := 4) scLw.nd rfl (Or.inl rfl) (pe_callG d_text.ok (hr.mono (by omega)) hG (by rfl) d_text.g d_text.kp d_text.b .nil pass0 (pa_cons (pv 2) (pa_cons (pe_callG d_book.ok (hr.mono (by omega)) hG (by rfl) d_book.g d_book.kp d_book.b .nil pass0 (pa_cons (pv 2) (pa_cons pe_int pa_nil))) pa_nil))))
        (pss_one (ps_if (pt_not (pt_val (pe_callG d_right.ok (hr.mono (by omega)) hG (by rfl) d_right.g d_right.kp d_right.b .nil pass0 (pa_cons (pv 2) (pa_cons (pv 4) (pa_cons (pe_slice sl_listB (pe_callG d_own.ok (hr.mono (by omega)) hG (by rfl) d_own.g d_own.kp d_own.b .nil pass0 (pa_cons (pv 4) pa_nil)) po_none (po_some (pe_un un_neg pe_int))) pa_nil))))))
          (pss_one (ps_ret pe_bl))
          pss_nil))))))
      (pss_one (ps_ret (pe_and (pe_cmpR (op_eqD hr.units) (pe_listT (pgt_call d_tokens.ok (hr.mono (by omega)) (by rfl) d_tokens.g d_tokens.kp d_tokens.b (pa_cons pe_str pa_nil)) (hr.mono (by omega)) (by rfl) T.list (by decide +kernel)) (pe_lst pa_nil) (nomark _)) (pe_one (pe_cmpR (op_eqD hr.units) (pe_listT (pgt_call d_tokens.ok (hr.mono (by omega)) (by rfl) d_tokens.g d_tokens.kp d_tokens.b (pa_cons pe_str pa_nil)) (hr.mono (by omega)) (by rfl) T.list (by decide +kernel)) (pe_lst (pa_cons (pe_tup (pa_cons pe_int (pa_cons pe_str pa_nil))) (pa_cons (pe_tup (pa_cons pe_int (pa_cons pe_str pa_nil))) (pa_cons (pe_tup (pa_cons pe_int (pa_cons pe_str pa_nil))) pa_nil)))) (nomark _))))))), ?_⟩
    refine ⟨.ref a, rfl, a, _, rfl, .inl hS, 3, _, rfl, 1, _, rfl, ((max 1 (min 3 ns.length) : Nat) : Int), ?_, by omega, by omega, for_range (lo := 0) (n := max 1 (min 3 ns.length)) (fun i σ Hi => ∃ y1 y2 y3 y4 y5 : Option V, σ = [some (.ref a), y1, y2, y3, y4, y5] ∧ Same H Hi) ⟨_, _, _, _, _, rfl, Same.refl _⟩ (fun i σ Hi hi hP => ?_) (fun σ Hi hP => ?_)⟩
    · show [V.int (if (if ((ns.map V.int).length : Int) < 3 then ((ns.map V.int).length : Int) else 3) > 1 then (if ((ns.map V.int).length : Int) < 3 then ((ns.map V.int).length : Int) else 3) else 1)] = _
      rw [List.length_map]
      congr 2
      split <;> split <;> omega
    · obtain ⟨y1, y2, y3, y4, y5, rfl, sm⟩ := hP
      rw [Int.zero_add]
      refine ⟨.ref a, rfl, .int (i : Nat), rfl, a, ns, i, rfl, sm.seq hS, by omega, fun b u nb hB => ?_⟩
      generalize hH1 : upd Hi b u = H1 at hB
      have o1 : Off b Hi H1 := by rw [← hH1]; exact Off.box
      refine ⟨6, rfl, by decide, by decide, for_range (lo := 0) (n := 6) (fun j σ Hj => ∃ y3 y4 y5 : Option V, σ = [some (.ref a), some (.int (i : Nat)), some (.ref b), y3, y4, y5] ∧ Off b Hi Hj ∧ Box Hj b (6001 * j)) ⟨_, _, _, rfl, o1, hB⟩ (fun j σ Hj hj hP => ?_) (fun σ Hj hP => ?_)⟩
      · obtain ⟨y3, y4, y5, rfl, oj, Bj⟩ := hP
        refine ⟨.ref b, rfl, b, _, rfl, Bj, by omega, fun H2 tp D p ps ts htp hx hpl hpsl hD Db Ds hts htb o2 B2 => ?_⟩
        refine ⟨tp, _, rfl, SqT.of htp, rfl, _, _, rfl, _, _, rfl, rfl, ?_⟩
        refine ⟨.ref b, rfl, .str (S p), rfl, .ref D, rfl, b, D, _, p, ps, ts, rfl, B2, by omega, by omega, hx, hD, Db, Ds, hts, htb, fun H3 o3 B3 => ⟨_, rfl, iteF ?_⟩⟩
        exact ⟨_, _, _, rfl, fun x o n h => o3 x o n (o2 x o n (oj x o n h)), B3.mono (by omega)⟩
      · obtain ⟨y3, y4, y5, rfl, oj, Bj⟩ := hP
        refine ⟨.ref b, rfl, .ref b, rfl, b, _, rfl, Bj, by omega, fun B H2 hR o2 B2 => ?_⟩
        refine ⟨b, B, _, rfl, B2, by omega, hR, fun p ps H3 hx hpl o3 B3 => ?_⟩
        refine ⟨.ref b, rfl, .str (S p), rfl, .str (S p), rfl, p, ps, rfl, by omega, hx, fun H4 l ts s4 nl hl hts hnew hle => ⟨1, rfl, _, rfl, l, _, rfl, SqL.of hl, fun m nm sm4 => ?_⟩⟩
        have B4 := B3.same s4
        have tl : ts.length = ps.length + 1 := by
          have := hts.1
          unfold outV at this
          rw [List.length_map, List.length_append] at this
          exact this
        have cut : cutV (refs ts) none (some (-1)) = refs (ts.take ps.length) := by
          unfold cutV refs
          have e : HT.sIx (ts.map V.ref).length (ts.map V.ref).length (some (-1)) = ps.length := by
            show (if (-1 : Int) < 0 then ((-1 : Int) + ((ts.map V.ref).length : Int)).toNat else min (-1 : Int).toNat (ts.map V.ref).length) = ps.length
            rw [if_pos (by decide), List.length_map]
            omega
          rw [e, HT.sIx_none, List.drop_zero, Nat.sub_zero, List.map_take]
        dsimp only [tNil]
        rw [cut]
        have o5 : Same H4 (upd H4 m (.lst (refs (ts.take ps.length)))) := same_new nm
        have tu : Tups H4 (ts.take ps.length) (outV ps) := by
          refine ⟨by rw [List.length_take]; unfold outV; rw [List.length_map]; omega, fun j t xs h1 h2 => hts.2 j t xs ?_ ?_⟩
          · rw [List.getElem?_take] at h1
            split at h1
            · exact h1
            · cases h1
          · unfold outV at h2 ⊢
            rw [List.map_append]
            rw [List.getElem?_append_left (by exact (List.getElem?_eq_some_iff.mp h2).1)]
            exact h2
        refine ⟨b, m, _, p, ps, ts.take ps.length, rfl, B4.same o5, by omega, by omega, hx, upd_same, B4.ne nm, sm4, tu.mono fun t _ o ho => o5 _ _ ho, fun t ht e => ?_, fun H6 o6 B6 => ⟨_, rfl, iteF ?_⟩⟩
        · have h0 := hnew t (List.mem_of_mem_take ht)
          obtain ⟨_, _, _, hb, _⟩ := B3
          rw [e, hb] at h0
          cases h0
        · exact ⟨_, _, _, _, _, rfl, fun x o h => by
            have hx2 := sm x o h
            have xb : x ≠ b := fun z => by
              rw [z, nb] at hx2
              cases hx2
            exact o6 x o xb (o5 x o (s4 x o (o3 x o xb (o2 x o xb (oj x o xb hx2)))))⟩
    · obtain ⟨y1, y2, y3, y4, y5, rfl, sm⟩ := hP
      have dE : ∀ (G : Hp) (l : Addr), G l = some (.lst []) → Dp K G (.ref l) (dL []) := fun G l h => .lst (SqL.of h) .nil
      refine ⟨outV [], ⟨cs "", [], by rw [S_cs], by decide +kernel, lx_none, rfl⟩, by show 0 ≤ sizeLine; decide, fun S5 t5 H5 n5 _ l5 h5 gr => ⟨by show 0 ≤ sizeLine; decide, fun l nl => ?_⟩⟩
      have e5 : t5 = [] := List.length_eq_zero_iff.mp l5
      subst e5
      refine ⟨dL [], dL [], dE _ _ ((same_new (o := .lst []) nl) _ _ h5), dE _ _ upd_same, rfl, rfl, true, rfl, iteT ?_⟩
      generalize upd H5 l (.lst []) = H6
      have o2 : ∀ n ≤ sizeLine, n ≤ sizeLine := fun _ h => h
      refine ⟨outV [(0, [51]), (1, [98]), (2, [34, 34])], ⟨cs "3b\"\"", _, by rw [S_cs], by decide +kernel, lx_three, rfl⟩, by show 3 ≤ sizeLine; decide, fun S7 t7 H7 n7 _ l7 h7 gr7 => ⟨by show 2 ≤ sizeLine; decide, fun p1 np1 => ⟨by show 2 ≤ sizeLine; decide, fun p2 np2 => ⟨by show 2 ≤ sizeLine; decide, fun p3 np3 => ⟨by show 3 ≤ sizeLine; decide, fun l2 nl2 => ?_⟩⟩⟩⟩⟩
      have x1 := same_new (o := .tup [.int 0, .str "3"]) np1
      have x2 := same_new (o := .tup [.int 1, .str "b"]) np2
      have x3 := same_new (o := .tup [.int 2, .str "\"\""]) np3
      have x4 := same_new (o := .lst [.ref p1, .ref p2, .ref p3]) nl2
      have hA : ∀ p ∈ ([(0, [51]), (1, [98]), (2, [34, 34])] : List (Nat × Cd)), Asc p := by unfold Asc; decide +kernel
      have xx := x1.trans (x2.trans (x3.trans x4))
      have s1 : S [51] = "3" := by decide +kernel
      have s2 : S [98] = "b" := by decide +kernel
      have s3 : S [34, 34] = "\"\"" := by decide +kernel
      have g1 := x4 _ _ (x3 _ _ (x2 _ _ (upd_same (H := H7) (a := p1) (o := .tup [.int 0, .str "3"]))))
      have g2 := x4 _ _ (x3 _ _ (upd_same (H := upd H7 p1 (.tup [.int 0, .str "3"])) (a := p2) (o := .tup [.int 1, .str "b"])))
      have g3 := x4 _ _ (upd_same (H := upd (upd H7 p1 (.tup [.int 0, .str "3"])) p2 (.tup [.int 1, .str "b"])) (a := p3) (o := .tup [.int 2, .str "\"\""]))
      have g4 : (upd (upd (upd (upd H7 p1 (.tup [.int 0, .str "3"])) p2 (.tup [.int 1, .str "b"])) p3 (.tup [.int 2, .str "\"\""])) l2 (.lst [.ref p1, .ref p2, .ref p3])) l2 = some (.lst [.ref p1, .ref p2, .ref p3]) := upd_same
      generalize upd (upd (upd (upd H7 p1 (.tup [.int 0, .str "3"])) p2 (.tup [.int 1, .str "b"])) p3 (.tup [.int 2, .str "\"\""])) l2 (.lst [.ref p1, .ref p2, .ref p3]) = H8 at xx g1 g2 g3 g4 ⊢
      have tu : Tups H8 t7 (outV [(0, [51]), (1, [98]), (2, [34, 34])]) := Tups.mono ⟨l7, gr7.tup⟩ fun t _ o ho => xx t o ho
      have tv := Tups.app (Tups.one g1) (Tups.app (Tups.one g2) (Tups.one g3))
      have tw : Tups H8 [p1, p2, p3] (outV [(0, [51]), (1, [98]), (2, [34, 34])]) := by
        have e : outV [(0, [51]), (1, [98]), (2, [34, 34])] = [[.int 0, .str "3"]] ++ ([[.int 1, .str "b"]] ++ [[.int 2, .str "\"\""]]) := by
          show [[V.int 0, .str (S [51])], [.int 1, .str (S [98])], [.int 2, .str (S [34, 34])]] = _
          rw [s1, s2, s3]
          rfl
        rw [e]
        exact tv
      obtain ⟨hsh, _⟩ := shp hA
      refine ⟨dL [(0, [51]), (1, [98]), (2, [34, 34])], dL [(0, [51]), (1, [98]), (2, [34, 34])], .lst (SqL.of (xx _ _ h7)) (dps_of tu), .lst (SqL.of g4) (dps_of tw), hsh, hsh, ?_⟩
      rw [show PyData.eqv (dL [(0, [51]), (1, [98]), (2, [34, 34])]) (dL [(0, [51]), (1, [98]), (2, [34, 34])]) = true from SeqAt.eqv_refl _ (lay_all hA)]
      exact q _
end
end M02

set_option Elab.async false
set_option linter.all false
set_option maxRecDepth 100000
set_option maxHeartbeats 16000000
namespace M02
open PySem PySem.Spec PyProof.Rows L2 GL GT
/-! ### what the top has left -/
theorem all_mk {l : PySem.W.OpenLaw} {w : World} {K : PySem.W.Frag} {h : Heap} {mg : Str → Option Value} {fa f1 f2 f3 f4 f5 f6 f7 f8 f9 f10 f11 f12 f13 f14 f15 f16 f17 f18 f19 f20 f21 f22 f23 f24 f25 f26 f27 f28 f29 : Addr} (X : K.In h) (G : h.Ns mainGlobals mg) (hfa : mg "law" = some (.ref fa))
    {od1 an1 od2 an2 od3 an3 od4 an4 od5 an5 od6 an6 od7 an7 od8 an8 od9 an9 od10 an10 od11 an11 od12 an12 od13 an13 od14 an14 od15 an15 od16 an16 od17 an17 od18 an18 od19 an19 od20 an20 od21 an21 od22 an22 od23 an23 od24 an24 od25 an25 od26 an26 od27 an27 od28 an28 od29 an29 : Option Addr} {sl1 sl2 sl3 sl4 sl5 sl6 sl7 sl8 sl9 sl10 sl11 sl12 sl13 sl14 sl15 sl16 sl17 sl18 sl19 sl20 sl21 sl22 sl23 sl24 sl25 sl26 sl27 sl28 sl29 : Array (Option Value)}
    {oc1 kV1 dc1 pm1 cd1 ct1 oc2 kV2 dc2 pm2 cd2 ct2 oc3 kV3 dc3 pm3 cd3 ct3 oc4 kV4 dc4 pm4 cd4 ct4 oc5 kV5 dc5 pm5 cd5 ct5 oc6 kV6 dc6 pm6 cd6 ct6 oc7 kV7 dc7 pm7 cd7 ct7 oc8 kV8 dc8 pm8 cd8 ct8 oc9 kV9 dc9 pm9 cd9 ct9 oc10 kV10 dc10 pm10 cd10 ct10 oc11 kV11 dc11 pm11 cd11 ct11 oc12 kV12 dc12 pm12 cd12 ct12 oc13 kV13 dc13 pm13 cd13 ct13 oc14 kV14 dc14 pm14 cd14 ct14 oc15 kV15 dc15 pm15 cd15 ct15 oc16 kV16 dc16 pm16 cd16 ct16 oc17 kV17 dc17 pm17 cd17 ct17 oc18 kV18 dc18 pm18 cd18 ct18 oc19 kV19 dc19 pm19 cd19 ct19 oc20 kV20 dc20 pm20 cd20 ct20 oc21 kV21 dc21 pm21 cd21 ct21 oc22 kV22 dc22 pm22 cd22 ct22 oc23 kV23 dc23 pm23 cd23 ct23 oc24 kV24 dc24 pm24 cd24 ct24 oc25 kV25 dc25 pm25 cd25 ct25 oc26 kV26 dc26 pm26 cd26 ct26 oc27 kV27 dc27 pm27 cd27 ct27 oc28 kV28 dc28 pm28 cd28 ct28 oc29 kV29 dc29 pm29 cd29 ct29 : Value}
    (a1 : PySem.W.nsIn K mainGlobals "is_string_part" = some (some (.ref f1)))
    (l1 : K.lookup f1 = some ⟨oc1, od1, .func (PySem.W.fnOf "is_string_part" "is_string_part" (defArgs sPart) (defBody sPart) (defScope sPart) .none kV1 dc1 pm1 an1 cd1 ct1), sl1⟩)
    (c1 : PySem.W.codeIn K cd1 "is_string_part" = true)
    (k1 : PySem.W.keepIn K (.ref f1) = true)
    (a2 : PySem.W.nsIn K mainGlobals "run_end" = some (some (.ref f2)))
    (l2 : K.lookup f2 = some ⟨oc2, od2, .func (PySem.W.fnOf "run_end" "run_end" (defArgs sRun) (defBody sRun) (defScope sRun) .none kV2 dc2 pm2 an2 cd2 ct2), sl2⟩)
    (c2 : PySem.W.codeIn K cd2 "run_end" = true)
    (k2 : PySem.W.keepIn K (.ref f2) = true)
    (a3 : PySem.W.nsIn K mainGlobals "token_end" = some (some (.ref f3)))
    (l3 : K.lookup f3 = some ⟨oc3, od3, .func (PySem.W.fnOf "token_end" "token_end" (defArgs sTokEnd) (defBody sTokEnd) (defScope sTokEnd) .none kV3 dc3 pm3 an3 cd3 ct3), sl3⟩)
    (c3 : PySem.W.codeIn K cd3 "token_end" = true)
    (k3 : PySem.W.keepIn K (.ref f3) = true)
    (a4 : PySem.W.nsIn K mainGlobals "behind_gap" = some (some (.ref f4)))
    (l4 : K.lookup f4 = some ⟨oc4, od4, .func (PySem.W.fnOf "behind_gap" "behind_gap" (defArgs sGap) (defBody sGap) (defScope sGap) .none kV4 dc4 pm4 an4 cd4 ct4), sl4⟩)
    (c4 : PySem.W.codeIn K cd4 "behind_gap" = true)
    (k4 : PySem.W.keepIn K (.ref f4) = true)
    (a5 : PySem.W.nsIn K mainGlobals "tokens" = some (some (.ref f5)))
    (l5 : K.lookup f5 = some ⟨oc5, od5, .func (PySem.W.fnOf "tokens" "tokens" (defArgs sTokens) (defBody sTokens) (defScope sTokens) .none kV5 dc5 pm5 an5 cd5 ct5), sl5⟩)
    (c5 : PySem.W.codeIn K cd5 "tokens" = true)
    (k5 : PySem.W.keepIn K (.ref f5) = true)
    (a6 : PySem.W.nsIn K mainGlobals "_law_box" = some (some (.ref f6)))
    (l6 : K.lookup f6 = some ⟨oc6, od6, .func (PySem.W.fnOf "_law_box" "_law_box" (defArgs sBox) (defBody sBox) (defScope sBox) .none kV6 dc6 pm6 an6 cd6 ct6), sl6⟩)
    (c6 : PySem.W.codeIn K cd6 "_law_box" = true)
    (k6 : PySem.W.keepIn K (.ref f6) = true)
    (a7 : PySem.W.nsIn K mainGlobals "_law_take" = some (some (.ref f7)))
    (l7 : K.lookup f7 = some ⟨oc7, od7, .func (PySem.W.fnOf "_law_take" "_law_take" (defArgs sTake) (defBody sTake) (defScope sTake) .none kV7 dc7 pm7 an7 cd7 ct7), sl7⟩)
    (c7 : PySem.W.codeIn K cd7 "_law_take" = true)
    (k7 : PySem.W.keepIn K (.ref f7) = true)
    (a8 : PySem.W.nsIn K mainGlobals "_law_of" = some (some (.ref f8)))
    (l8 : K.lookup f8 = some ⟨oc8, od8, .func (PySem.W.fnOf "_law_of" "_law_of" (defArgs sOf) (defBody sOf) (defScope sOf) .none kV8 dc8 pm8 an8 cd8 ct8), sl8⟩)
    (c8 : PySem.W.codeIn K cd8 "_law_of" = true)
    (k8 : PySem.W.keepIn K (.ref f8) = true)
    (a9 : PySem.W.nsIn K mainGlobals "_law_plain" = some (some (.ref f9)))
    (l9 : K.lookup f9 = some ⟨oc9, od9, .func (PySem.W.fnOf "_law_plain" "_law_plain" (defArgs sPlain) (defBody sPlain) (defScope sPlain) .none kV9 dc9 pm9 an9 cd9 ct9), sl9⟩)
    (c9 : PySem.W.codeIn K cd9 "_law_plain" = true)
    (k9 : PySem.W.keepIn K (.ref f9) = true)
    (a10 : PySem.W.nsIn K mainGlobals "_law_simple" = some (some (.ref f10)))
    (l10 : K.lookup f10 = some ⟨oc10, od10, .func (PySem.W.fnOf "_law_simple" "_law_simple" (defArgs sSimple) (defBody sSimple) (defScope sSimple) .none kV10 dc10 pm10 an10 cd10 ct10), sl10⟩)
    (c10 : PySem.W.codeIn K cd10 "_law_simple" = true)
    (k10 : PySem.W.keepIn K (.ref f10) = true)
    (a11 : PySem.W.nsIn K mainGlobals "_law_value" = some (some (.ref f11)))
    (l11 : K.lookup f11 = some ⟨oc11, od11, .func (PySem.W.fnOf "_law_value" "_law_value" (defArgs sValue) (defBody sValue) (defScope sValue) .none kV11 dc11 pm11 an11 cd11 ct11), sl11⟩)
    (c11 : PySem.W.codeIn K cd11 "_law_value" = true)
    (k11 : PySem.W.keepIn K (.ref f11) = true)
    (a12 : PySem.W.nsIn K mainGlobals "_law_paths" = some (some (.ref f12)))
    (l12 : K.lookup f12 = some ⟨oc12, od12, .func (PySem.W.fnOf "_law_paths" "_law_paths" (defArgs sPaths) (defBody sPaths) (defScope sPaths) .none kV12 dc12 pm12 an12 cd12 ct12), sl12⟩)
    (c12 : PySem.W.codeIn K cd12 "_law_paths" = true)
    (k12 : PySem.W.keepIn K (.ref f12) = true)
    (a13 : PySem.W.nsIn K mainGlobals "_law_body" = some (some (.ref f13)))
    (l13 : K.lookup f13 = some ⟨oc13, od13, .func (PySem.W.fnOf "_law_body" "_law_body" (defArgs sBody) (defBody sBody) (defScope sBody) .none kV13 dc13 pm13 an13 cd13 ct13), sl13⟩)
    (c13 : PySem.W.codeIn K cd13 "_law_body" = true)
    (k13 : PySem.W.keepIn K (.ref f13) = true)
    (a14 : PySem.W.nsIn K mainGlobals "_law_loop" = some (some (.ref f14)))
    (l14 : K.lookup f14 = some ⟨oc14, od14, .func (PySem.W.fnOf "_law_loop" "_law_loop" (defArgs sLoop) (defBody sLoop) (defScope sLoop) .none kV14 dc14 pm14 an14 cd14 ct14), sl14⟩)
    (c14 : PySem.W.codeIn K cd14 "_law_loop" = true)
    (k14 : PySem.W.keepIn K (.ref f14) = true)
    (a15 : PySem.W.nsIn K mainGlobals "_law_entries" = some (some (.ref f15)))
    (l15 : K.lookup f15 = some ⟨oc15, od15, .func (PySem.W.fnOf "_law_entries" "_law_entries" (defArgs sEntries) (defBody sEntries) (defScope sEntries) .none kV15 dc15 pm15 an15 cd15 ct15), sl15⟩)
    (c15 : PySem.W.codeIn K cd15 "_law_entries" = true)
    (k15 : PySem.W.keepIn K (.ref f15) = true)
    (a16 : PySem.W.nsIn K mainGlobals "_law_book" = some (some (.ref f16)))
    (l16 : K.lookup f16 = some ⟨oc16, od16, .func (PySem.W.fnOf "_law_book" "_law_book" (defArgs sBook) (defBody sBook) (defScope sBook) .none kV16 dc16 pm16 an16 cd16 ct16), sl16⟩)
    (c16 : PySem.W.codeIn K cd16 "_law_book" = true)
    (k16 : PySem.W.keepIn K (.ref f16) = true)
    (a17 : PySem.W.nsIn K mainGlobals "_law_literal_signs" = some (some (.ref f17)))
    (l17 : K.lookup f17 = some ⟨oc17, od17, .func (PySem.W.fnOf "_law_literal_signs" "_law_literal_signs" (defArgs sLSig) (defBody sLSig) (defScope sLSig) .none kV17 dc17 pm17 an17 cd17 ct17), sl17⟩)
    (c17 : PySem.W.codeIn K cd17 "_law_literal_signs" = true)
    (k17 : PySem.W.keepIn K (.ref f17) = true)
    (a18 : PySem.W.nsIn K mainGlobals "_law_value_signs" = some (some (.ref f18)))
    (l18 : K.lookup f18 = some ⟨oc18, od18, .func (PySem.W.fnOf "_law_value_signs" "_law_value_signs" (defArgs sVSig) (defBody sVSig) (defScope sVSig) .none kV18 dc18 pm18 an18 cd18 ct18), sl18⟩)
    (c18 : PySem.W.codeIn K cd18 "_law_value_signs" = true)
    (k18 : PySem.W.keepIn K (.ref f18) = true)
    (a19 : PySem.W.nsIn K mainGlobals "_law_body_signs" = some (some (.ref f19)))
    (l19 : K.lookup f19 = some ⟨oc19, od19, .func (PySem.W.fnOf "_law_body_signs" "_law_body_signs" (defArgs sBSig) (defBody sBSig) (defScope sBSig) .none kV19 dc19 pm19 an19 cd19 ct19), sl19⟩)
    (c19 : PySem.W.codeIn K cd19 "_law_body_signs" = true)
    (k19 : PySem.W.keepIn K (.ref f19) = true)
    (a20 : PySem.W.nsIn K mainGlobals "_law_signs" = some (some (.ref f20)))
    (l20 : K.lookup f20 = some ⟨oc20, od20, .func (PySem.W.fnOf "_law_signs" "_law_signs" (defArgs sSigns) (defBody sSigns) (defScope sSigns) .none kV20 dc20 pm20 an20 cd20 ct20), sl20⟩)
    (c20 : PySem.W.codeIn K cd20 "_law_signs" = true)
    (k20 : PySem.W.keepIn K (.ref f20) = true)
    (a21 : PySem.W.nsIn K mainGlobals "_law_text" = some (some (.ref f21)))
    (l21 : K.lookup f21 = some ⟨oc21, od21, .func (PySem.W.fnOf "_law_text" "_law_text" (defArgs sText) (defBody sText) (defScope sText) .none kV21 dc21 pm21 an21 cd21 ct21), sl21⟩)
    (c21 : PySem.W.codeIn K cd21 "_law_text" = true)
    (k21 : PySem.W.keepIn K (.ref f21) = true)
    (a22 : PySem.W.nsIn K mainGlobals "_law_string_end" = some (some (.ref f22)))
    (l22 : K.lookup f22 = some ⟨oc22, od22, .func (PySem.W.fnOf "_law_string_end" "_law_string_end" (defArgs sLStr) (defBody sLStr) (defScope sLStr) .none kV22 dc22 pm22 an22 cd22 ct22), sl22⟩)
    (c22 : PySem.W.codeIn K cd22 "_law_string_end" = true)
    (k22 : PySem.W.keepIn K (.ref f22) = true)
    (a23 : PySem.W.nsIn K mainGlobals "_law_token_end" = some (some (.ref f23)))
    (l23 : K.lookup f23 = some ⟨oc23, od23, .func (PySem.W.fnOf "_law_token_end" "_law_token_end" (defArgs sLTok) (defBody sLTok) (defScope sLTok) .none kV23 dc23 pm23 an23 cd23 ct23), sl23⟩)
    (c23 : PySem.W.codeIn K cd23 "_law_token_end" = true)
    (k23 : PySem.W.keepIn K (.ref f23) = true)
    (a24 : PySem.W.nsIn K mainGlobals "_law_tokens" = some (some (.ref f24)))
    (l24 : K.lookup f24 = some ⟨oc24, od24, .func (PySem.W.fnOf "_law_tokens" "_law_tokens" (defArgs sLToks) (defBody sLToks) (defScope sLToks) .none kV24 dc24 pm24 an24 cd24 ct24), sl24⟩)
    (c24 : PySem.W.codeIn K cd24 "_law_tokens" = true)
    (k24 : PySem.W.keepIn K (.ref f24) = true)
    (a25 : PySem.W.nsIn K mainGlobals "_law_token" = some (some (.ref f25)))
    (l25 : K.lookup f25 = some ⟨oc25, od25, .func (PySem.W.fnOf "_law_token" "_law_token" (defArgs sToken) (defBody sToken) (defScope sToken) .none kV25 dc25 pm25 an25 cd25 ct25), sl25⟩)
    (c25 : PySem.W.codeIn K cd25 "_law_token" = true)
    (k25 : PySem.W.keepIn K (.ref f25) = true)
    (a26 : PySem.W.nsIn K mainGlobals "_law_parts" = some (some (.ref f26)))
    (l26 : K.lookup f26 = some ⟨oc26, od26, .func (PySem.W.fnOf "_law_parts" "_law_parts" (defArgs sParts) (defBody sParts) (defScope sParts) .none kV26 dc26 pm26 an26 cd26 ct26), sl26⟩)
    (c26 : PySem.W.codeIn K cd26 "_law_parts" = true)
    (k26 : PySem.W.keepIn K (.ref f26) = true)
    (a27 : PySem.W.nsIn K mainGlobals "_law_put_together" = some (some (.ref f27)))
    (l27 : K.lookup f27 = some ⟨oc27, od27, .func (PySem.W.fnOf "_law_put_together" "_law_put_together" (defArgs sPut) (defBody sPut) (defScope sPut) .none kV27 dc27 pm27 an27 cd27 ct27), sl27⟩)
    (c27 : PySem.W.codeIn K cd27 "_law_put_together" = true)
    (k27 : PySem.W.keepIn K (.ref f27) = true)
    (a28 : PySem.W.nsIn K mainGlobals "_law_right" = some (some (.ref f28)))
    (l28 : K.lookup f28 = some ⟨oc28, od28, .func (PySem.W.fnOf "_law_right" "_law_right" (defArgs sRight) (defBody sRight) (defScope sRight) .none kV28 dc28 pm28 an28 cd28 ct28), sl28⟩)
    (c28 : PySem.W.codeIn K cd28 "_law_right" = true)
    (k28 : PySem.W.keepIn K (.ref f28) = true)
    (a29 : PySem.W.nsIn K mainGlobals "law" = some (some (.ref f29)))
    (l29 : K.lookup f29 = some ⟨oc29, od29, .func (PySem.W.fnOf "law" "law" (defArgs sLaw) (defBody sLaw) (defScope sLaw) .none kV29 dc29 pm29 an29 cd29 ct29), sl29⟩)
    (c29 : PySem.W.codeIn K cd29 "law" = true)
    (k29 : PySem.W.keepIn K (.ref f29) = true)
    (z0 : PySem.W.nsIn K mainGlobals "len" = some none)
    (z1 : PySem.W.nsIn K mainGlobals "abs" = some none)
    (z2 : PySem.W.nsIn K mainGlobals "int" = some none)
    (z3 : PySem.W.nsIn K mainGlobals "max" = some none)
    (z4 : PySem.W.nsIn K mainGlobals "min" = some none)
    (z5 : PySem.W.nsIn K mainGlobals "range" = some none)
    (z6 : PySem.W.nsIn K mainGlobals "list" = some none)
    (z7 : PySem.W.nsIn K mainGlobals "repr" = some none)
    (z8 : PySem.W.nsIn K mainGlobals "all" = some none)
    (z9 : PySem.W.nsIn K mainGlobals "isinstance" = some none)
    (z10 : PySem.W.nsIn K mainGlobals "str" = some none)
    (z11 : PySem.W.nsIn K mainGlobals "tuple" = some none)
    (z12 : PySem.W.nsIn K mainGlobals "sorted" = some none)
    (z13 : PySem.W.nsIn K mainGlobals "ord" = some none)
    (z14 : PySem.W.nsIn K mainGlobals "dict" = some none)
    (z15 : PySem.W.nsIn K mainGlobals "enumerate" = some none)
    (z16 : PySem.W.nsIn K mainGlobals "bool" = some none)
    {tk0 tk1 tk2 tk3 tk4 tk5 tk6 tk7 tk8 tk9 : PySem.Tok} {aK : Addr} {odK : Option Addr} {nK : Nat} {slK : Array (Option Value)} {x0 x1 : PySem.Tok}
    (g0 : PySem.W.nsIn K mainGlobals "LETTERS" = some (some (.str "abcdefghijklmnopqrstuvwxyz" tk0)))
    (g1 : PySem.W.nsIn K mainGlobals "DIGITS" = some (some (.str "0123456789" tk1)))
    (g2 : PySem.W.nsIn K mainGlobals "SIGNS" = some (some (.str "{}[]():.,=+-*" tk2)))
    (g3 : PySem.W.nsIn K mainGlobals "QUOTE" = some (some (.str "\"" tk3)))
    (g4 : PySem.W.nsIn K mainGlobals "BACKSLASH" = some (some (.str "\\" tk4)))
    (g5 : PySem.W.nsIn K mainGlobals "REMARK" = some (some (.str "#" tk5)))
    (g6 : PySem.W.nsIn K mainGlobals "FEED" = some (some (.str "\n" tk6)))
    (g7 : PySem.W.nsIn K mainGlobals "MOST_IN_STRING" = some (some (.int 60 tk7)))
    (g8 : PySem.W.nsIn K mainGlobals "LEAST_CODE" = some (some (.int 32 tk8)))
    (g9 : PySem.W.nsIn K mainGlobals "MOST_CODE" = some (some (.int 126 tk9)))
    (gK1 : PySem.W.nsIn K mainGlobals "GAPS" = some (some (.ref aK)))
    (gK2 : K.lookup aK = some ⟨.type "tuple", odK, .seq #[.str " " x0, .str "\n" x1] nK, slK⟩) :
    ∃ fd : FuncData, (∀ (s : Shared) (v : Value), BindsTo s fd ⟨[v], []⟩ [("_law_script", v)]) ∧ ∀ base : Heap, K.In base → base.Ns mainGlobals mg → FnG l.prog w K mg base CX0 13 fa fd ["_law_script"] (spLaw K) := by
  have e := hfa.symm.trans (PySem.W.mg_of X G a29)
  cases e
  have F1 := fun_mk (st := sPart) l1 c1 k1
  have b1 := F1.binds (ps := ["text"]) fun _ _ _ _ _ _ us hl => match us, hl with | [_], _ => rfl
  have F2 := fun_mk (st := sRun) l2 c2 k2
  have b2 := F2.binds (ps := ["text", "start", "signs"]) fun _ _ _ _ _ _ us hl => match us, hl with | [_, _, _], _ => rfl
  have F3 := fun_mk (st := sTokEnd) l3 c3 k3
  have b3 := F3.binds (ps := ["text", "start"]) fun _ _ _ _ _ _ us hl => match us, hl with | [_, _], _ => rfl
  have F4 := fun_mk (st := sGap) l4 c4 k4
  have b4 := F4.binds (ps := ["text", "start"]) fun _ _ _ _ _ _ us hl => match us, hl with | [_, _], _ => rfl
  have F5 := fun_mk (st := sTokens) l5 c5 k5
  have b5 := F5.binds (ps := ["text"]) fun _ _ _ _ _ _ us hl => match us, hl with | [_], _ => rfl
  have F6 := fun_mk (st := sBox) l6 c6 k6
  have b6 := F6.binds (ps := ["_law_script", "_law_k"]) fun _ _ _ _ _ _ us hl => match us, hl with | [_, _], _ => rfl
  have F7 := fun_mk (st := sTake) l7 c7 k7
  have b7 := F7.binds (ps := ["_law_box_here", "_law_many"]) fun _ _ _ _ _ _ us hl => match us, hl with | [_, _], _ => rfl
  have F8 := fun_mk (st := sOf) l8 c8 k8
  have b8 := F8.binds (ps := ["_law_box_here", "_law_some"]) fun _ _ _ _ _ _ us hl => match us, hl with | [_, _], _ => rfl
  have F9 := fun_mk (st := sPlain) l9 c9 k9
  have b9 := F9.binds (ps := ["_law_box_here", "_law_kind"]) fun _ _ _ _ _ _ us hl => match us, hl with | [_, _], _ => rfl
  have F10 := fun_mk (st := sSimple) l10 c10 k10
  have b10 := F10.binds (ps := ["_law_box_here", "_law_some", "_law_kind"]) fun _ _ _ _ _ _ us hl => match us, hl with | [_, _, _], _ => rfl
  have F11 := fun_mk (st := sValue) l11 c11 k11
  have b11 := F11.binds (ps := ["_law_box_here", "_law_some", "_law_kind"]) fun _ _ _ _ _ _ us hl => match us, hl with | [_, _, _], _ => rfl
  have F12 := fun_mk (st := sPaths) l12 c12 k12
  have b12 := F12.binds (ps := ["_law_book_here", "_law_kinds"]) fun _ _ _ _ _ _ us hl => match us, hl with | [_, _], _ => rfl
  have F13 := fun_mk (st := sBody) l13 c13 k13
  have b13 := F13.binds (ps := ["_law_box_here", "_law_book_here", "_law_name", "_law_some", "_law_is_own"]) fun _ _ _ _ _ _ us hl => match us, hl with | [_, _, _, _, _], _ => rfl
  have F14 := fun_mk (st := sLoop) l14 c14 k14
  have b14 := F14.binds (ps := ["_law_box_here", "_law_book_here", "_law_name", "_law_some"]) fun _ _ _ _ _ _ us hl => match us, hl with | [_, _, _, _], _ => rfl
  have F15 := fun_mk (st := sEntries) l15 c15 k15
  have b15 := F15.binds (ps := ["_law_box_here", "_law_book_here", "_law_most"]) fun _ _ _ _ _ _ us hl => match us, hl with | [_, _, _], _ => rfl
  have F16 := fun_mk (st := sBook) l16 c16 k16
  have b16 := F16.binds (ps := ["_law_box_here", "_law_most"]) fun _ _ _ _ _ _ us hl => match us, hl with | [_, _], _ => rfl
  have F17 := fun_mk (st := sLSig) l17 c17 k17
  have b17 := F17.binds (ps := ["_law_value_here"]) fun _ _ _ _ _ _ us hl => match us, hl with | [_], _ => rfl
  have F18 := fun_mk (st := sVSig) l18 c18 k18
  have b18 := F18.binds (ps := ["_law_value_here"]) fun _ _ _ _ _ _ us hl => match us, hl with | [_], _ => rfl
  have F19 := fun_mk (st := sBSig) l19 c19 k19
  have b19 := F19.binds (ps := ["_law_body_here"]) fun _ _ _ _ _ _ us hl => match us, hl with | [_], _ => rfl
  have F20 := fun_mk (st := sSigns) l20 c20 k20
  have b20 := F20.binds (ps := ["_law_book_here"]) fun _ _ _ _ _ _ us hl => match us, hl with | [_], _ => rfl
  have F21 := fun_mk (st := sText) l21 c21 k21
  have b21 := F21.binds (ps := ["_law_box_here", "_law_book_here"]) fun _ _ _ _ _ _ us hl => match us, hl with | [_, _], _ => rfl
  have F22 := fun_mk (st := sLStr) l22 c22 k22
  have b22 := F22.binds (ps := ["_law_page", "_law_at"]) fun _ _ _ _ _ _ us hl => match us, hl with | [_, _], _ => rfl
  have F23 := fun_mk (st := sLTok) l23 c23 k23
  have b23 := F23.binds (ps := ["_law_page", "_law_at"]) fun _ _ _ _ _ _ us hl => match us, hl with | [_, _], _ => rfl
  have F24 := fun_mk (st := sLToks) l24 c24 k24
  have b24 := F24.binds (ps := ["_law_page"]) fun _ _ _ _ _ _ us hl => match us, hl with | [_], _ => rfl
  have F25 := fun_mk (st := sToken) l25 c25 k25
  have b25 := F25.binds (ps := ["_law_box_here"]) fun _ _ _ _ _ _ us hl => match us, hl with | [_], _ => rfl
  have F26 := fun_mk (st := sParts) l26 c26 k26
  have b26 := F26.binds (ps := ["_law_ahead", "_law_token_here"]) fun _ _ _ _ _ _ us hl => match us, hl with | [_, _], _ => rfl
  have F27 := fun_mk (st := sPut) l27 c27 k27
  have b27 := F27.binds (ps := ["_law_box_here"]) fun _ _ _ _ _ _ us hl => match us, hl with | [_], _ => rfl
  have F28 := fun_mk (st := sRight) l28 c28 k28
  have b28 := F28.binds (ps := ["_law_box_here", "_law_page", "_law_due"]) fun _ _ _ _ _ _ us hl => match us, hl with | [_, _, _], _ => rfl
  have F29 := fun_mk (st := sLaw) l29 c29 k29
  have T : Bl K mg := ⟨PySem.W.mg_none_of X G z0, PySem.W.mg_none_of X G z1, PySem.W.mg_none_of X G z2, PySem.W.mg_none_of X G z3, PySem.W.mg_none_of X G z4, PySem.W.mg_none_of X G z5, PySem.W.mg_none_of X G z6, PySem.W.mg_none_of X G z7, PySem.W.mg_none_of X G z8, PySem.W.mg_none_of X G z9, PySem.W.mg_none_of X G z10, PySem.W.mg_none_of X G z11, PySem.W.mg_none_of X G z12, PySem.W.mg_none_of X G z13, PySem.W.mg_none_of X G z14, PySem.W.mg_none_of X G z15, PySem.W.mg_none_of X G z16, ⟨_, PySem.W.mg_of X G g0⟩, ⟨_, PySem.W.mg_of X G g1⟩, ⟨_, PySem.W.mg_of X G g2⟩, ⟨_, PySem.W.mg_of X G g3⟩, ⟨_, PySem.W.mg_of X G g4⟩, ⟨_, PySem.W.mg_of X G g5⟩, ⟨_, PySem.W.mg_of X G g6⟩, ⟨_, PySem.W.mg_of X G g7⟩, ⟨_, PySem.W.mg_of X G g8⟩, ⟨_, PySem.W.mg_of X G g9⟩, aK, PySem.W.mg_of X G gK1, fun H => .inr ⟨_, _, _, gK2, rfl, rfl, by show 2 ≤ sizeLine; decide, .cons ⟨_, rfl⟩ (.cons ⟨_, rfl⟩ .nil)⟩⟩
  have kbT : KBinds K (PySem.W.fnOf "tokens" "tokens" (defArgs sTokens) (defBody sTokens) (defScope sTokens) .none kV5 dc5 pm5 an5 cd5 ct5) ["text"] ["text"] gKv gK := by
    refine ⟨fun s us ws _ hl => ?_, fun r1 r2 => gK_rel r1 r2⟩
    match us, ws, hl with
    | [], [_], _ => exact .of_eq rfl
    | [], [], hl => exact nomatch hl
    | [], _ :: _ :: _, hl => exact nomatch hl
    | _ :: _, _, hl => exact nomatch hl
  refine ⟨PySem.W.fnOf "law" "law" (defArgs sLaw) (defBody sLaw) (defScope sLaw) .none kV29 dc29 pm29 an29 cd29 ct29, fun s v => .of_eq rfl, fun base _ _ => ?_⟩
  have dPart : DnO l.prog w K mg base "is_string_part" 1 _ spPart := ⟨_, _, ok_part F1 T, PySem.W.mg_of X G a1, F1.kp, b1⟩
  have dRun : DnO l.prog w K mg base "run_end" 1 _ spRun := ⟨_, _, ok_run F2 T, PySem.W.mg_of X G a2, F2.kp, b2⟩
  have dTE : DnO l.prog w K mg base "token_end" 2 _ spTE := ⟨_, _, ok_te F3 T dRun dPart, PySem.W.mg_of X G a3, F3.kp, b3⟩
  have dGap : DnO l.prog w K mg base "behind_gap" 1 _ spGap := ⟨_, _, ok_gap F4 T, PySem.W.mg_of X G a4, F4.kp, b4⟩
  have dTok : DnT l.prog w K mg base := ⟨_, _, ok_tokens F5 T dGap dTE, PySem.W.mg_of X G a5, F5.kp, b5, kbT⟩
  have dT : DnG l.prog w K mg base "_law_take" 1 _ spTake := ⟨_, _, .of (ok_take F7), PySem.W.mg_of X G a7, F7.kp, b7⟩
  have dO : DnG l.prog w K mg base "_law_of" 2 _ OfW := ⟨_, _, (ok_of F8 T dT).imp fun _ _ _ _ h => h.h, PySem.W.mg_of X G a8, F8.kp, b8⟩
  have dPl : DnG l.prog w K mg base "_law_plain" 3 _ spPlain := ⟨_, _, ok_plain F9 T dO, PySem.W.mg_of X G a9, F9.kp, b9⟩
  have dSi : DnG l.prog w K mg base "_law_simple" 4 _ spSimple := ⟨_, _, ok_simple F10 T dT dO dPl, PySem.W.mg_of X G a10, F10.kp, b10⟩
  have dVa : DnG l.prog w K mg base "_law_value" 5 _ spValue := ⟨_, _, ok_value F11 T dT dO dPl dSi, PySem.W.mg_of X G a11, F11.kp, b11⟩
  have dPa : DnG l.prog w K mg base "_law_paths" 1 _ spPaths := ⟨_, _, ok_paths F12 T, PySem.W.mg_of X G a12, F12.kp, b12⟩
  have y1 := ok_body (r := 0) F13 T dT dVa dPa ⟨_, _, ok_body0, PySem.W.mg_of X G a13, F13.kp, b13⟩
  have y2 := ok_body (r := 1) F13 T dT dVa dPa ⟨_, _, y1, PySem.W.mg_of X G a13, F13.kp, b13⟩
  have y3 := ok_body (r := 2) F13 T dT dVa dPa ⟨_, _, y2, PySem.W.mg_of X G a13, F13.kp, b13⟩
  have w0 := ok_loop (r := 0) F14 T dT dO dPl ⟨_, _, ok_body0, PySem.W.mg_of X G a13, F13.kp, b13⟩
  have w1 := ok_loop (r := 1) F14 T dT dO dPl ⟨_, _, y1, PySem.W.mg_of X G a13, F13.kp, b13⟩
  have w2 := ok_loop (r := 2) F14 T dT dO dPl ⟨_, _, y2, PySem.W.mg_of X G a13, F13.kp, b13⟩
  have w3 := ok_loop (r := 3) F14 T dT dO dPl ⟨_, _, y3, PySem.W.mg_of X G a13, F13.kp, b13⟩
  have UB : DnG l.prog w K mg base "_law_body" 8 _ (Up spBody) := ⟨_, _, FnG.up fun r hr => match r, hr with | 0, _ => ok_body0 | 1, _ => y1.mono (by decide) | 2, _ => y2.mono (by decide) | 3, _ => y3.mono (by decide), PySem.W.mg_of X G a13, F13.kp, b13⟩
  have UL : DnG l.prog w K mg base "_law_loop" 9 _ (Up spLoop) := ⟨_, _, FnG.up fun r hr => match r, hr with | 0, _ => w0.mono (by decide) | 1, _ => w1.mono (by decide) | 2, _ => w2.mono (by decide) | 3, _ => w3.mono (by decide), PySem.W.mg_of X G a14, F14.kp, b14⟩
  have dEn : DnG l.prog w K mg base "_law_entries" 10 _ spEntries := ⟨_, _, ok_entries F15 T dT dO dVa dPa UB UL, PySem.W.mg_of X G a15, F15.kp, b15⟩
  have dBo : DnG l.prog w K mg base "_law_book" 11 _ spBook := ⟨_, _, ok_book F16 T dT dO dPl UB dEn, PySem.W.mg_of X G a16, F16.kp, b16⟩
  have dLS : DnG l.prog w K mg base "_law_literal_signs" 1 _ spLSig := ⟨_, _, ok_lsig F17 T, PySem.W.mg_of X G a17, F17.kp, b17⟩
  have dBS : DnG l.prog w K mg base "_law_body_signs" 10 _ (Up spBS) := ⟨_, _, ok_signs3 ⟨_, _, PySem.W.mg_of X G a18, F18.kp, b18⟩ ⟨_, _, PySem.W.mg_of X G a19, F19.kp, b19⟩ F18 F19 T dLS, PySem.W.mg_of X G a19, F19.kp, b19⟩
  have dSg : DnG l.prog w K mg base "_law_signs" 11 _ spSigns := ⟨_, _, ok_signs F20 T dBS, PySem.W.mg_of X G a20, F20.kp, b20⟩
  have dTx : DnG l.prog w K mg base "_law_text" 12 _ spText := ⟨_, _, ok_text F21 T dO dSg, PySem.W.mg_of X G a21, F21.kp, b21⟩
  have lS : DnO l.prog w K mg base "_law_string_end" 1 _ spLS := ⟨_, _, ok_ls F22 T, PySem.W.mg_of X G a22, F22.kp, b22⟩
  have lK : DnO l.prog w K mg base "_law_token_end" 2 _ spTE := ⟨_, _, ok_lk F23 T lS, PySem.W.mg_of X G a23, F23.kp, b23⟩
  have lL : DnG l.prog w K mg base "_law_tokens" 3 _ spLL := ⟨_, _, .of (ok_ll F24 T lK), PySem.W.mg_of X G a24, F24.kp, b24⟩
  have dTo : DnG l.prog w K mg base "_law_token" 3 _ spToken := ⟨_, _, ok_token F25 T dT dO, PySem.W.mg_of X G a25, F25.kp, b25⟩
  have dPs : DnG l.prog w K mg base "_law_parts" 1 _ spParts := ⟨_, _, .of (ok_parts F26 T), PySem.W.mg_of X G a26, F26.kp, b26⟩
  have dPu : DnG l.prog w K mg base "_law_put_together" 4 _ spPut := ⟨_, _, ok_put F27 T dO dTo dPs, PySem.W.mg_of X G a27, F27.kp, b27⟩
  have dR : DnG l.prog w K mg base "_law_right" 8 _ spRight := ⟨_, _, ok_right F28 T dT lL dTok, PySem.W.mg_of X G a28, F28.kp, b28⟩
  exact ok_law F29 T ⟨_, _, .of (ok_box F6 T), PySem.W.mg_of X G a6, F6.kp, b6⟩ dPu dR dTx dBo lL dTok
end M02

set_option Elab.async false
set_option linter.all false
set_option maxRecDepth 100000
open PySem PySem.W PyProof.Rows
set_option maxHeartbeats 0 in
theorem PySem.Challenge.cw_sourceback_k02_tokens_of_texts_holds : PySem.Challenge.rw_sourceback_k02_tokens_of_texts.Holds := by
  w_on; o_law; k_head; (case hw => w_witness2)
  k_fill
  refine GL.walk_ofG (l := PySem.Challenge.rw_sourceback_k02_tokens_of_texts) (n := 63) (k := 13) (x := "_law_script") (CX := fun _ => L2.CX0) (sp := fun w => M02.spLaw _) rfl (by decide) rfl ⟨rfl, by decide, by decide⟩ (fun w h Y => PySem.W.kIn_of Y) ?F (fun _ _ a ns hl _ hS => ⟨a, ns, rfl, hS, hl, fun _ => rfl⟩) (fun _ _ _ _ _ h => h)
  case F =>
    intro w mg fa h KX G hmg
    refine' M02.all_mk KX G hmg ?q_a1 ?q_l1 ?q_c1 ?q_k1 ?q_a2 ?q_l2 ?q_c2 ?q_k2 ?q_a3 ?q_l3 ?q_c3 ?q_k3 ?q_a4 ?q_l4 ?q_c4 ?q_k4 ?q_a5 ?q_l5 ?q_c5 ?q_k5 ?q_a6 ?q_l6 ?q_c6 ?q_k6 ?q_a7 ?q_l7 ?q_c7 ?q_k7 ?q_a8 ?q_l8 ?q_c8 ?q_k8 ?q_a9 ?q_l9 ?q_c9 ?q_k9 ?q_a10 ?q_l10 ?q_c10 ?q_k10 ?q_a11 ?q_l11 ?q_c11 ?q_k11 ?q_a12 ?q_l12 ?q_c12 ?q_k12 ?q_a13 ?q_l13 ?q_c13 ?q_k13 ?q_a14 ?q_l14 ?q_c14 ?q_k14 ?q_a15 ?q_l15 ?q_c15 ?q_k15 ?q_a16 ?q_l16 ?q_c16 ?q_k16 ?q_a17 ?q_l17 ?q_c17 ?q_k17 ?q_a18 ?q_l18 ?q_c18 ?q_k18 ?q_a19 ?q_l19 ?q_c19 ?q_k19 ?q_a20 ?q_l20 ?q_c20 ?q_k20 ?q_a21 ?q_l21 ?q_c21 ?q_k21 ?q_a22 ?q_l22 ?q_c22 ?q_k22 ?q_a23 ?q_l23 ?q_c23 ?q_k23 ?q_a24 ?q_l24 ?q_c24 ?q_k24 ?q_a25 ?q_l25 ?q_c25 ?q_k25 ?q_a26 ?q_l26 ?q_c26 ?q_k26 ?q_a27 ?q_l27 ?q_c27 ?q_k27 ?q_a28 ?q_l28 ?q_c28 ?q_k28 ?q_a29 ?q_l29 ?q_c29 ?q_k29 ?q_z0 ?q_z1 ?q_z2 ?q_z3 ?q_z4 ?q_z5 ?q_z6 ?q_z7 ?q_z8 ?q_z9 ?q_z10 ?q_z11 ?q_z12 ?q_z13 ?q_z14 ?q_z15 ?q_z16 ?q_g0 ?q_g1 ?q_g2 ?q_g3 ?q_g4 ?q_g5 ?q_g6 ?q_g7 ?q_g8 ?q_g9 ?q_gK1 ?q_gK2
    (case q_a1 => first | k_is | rfl); (case q_l1 => first | k_is | rfl); (case q_c1 => first | k_is | rfl); (case q_k1 => first | k_is | rfl); (case q_a2 => first | k_is | rfl); (case q_l2 => first | k_is | rfl); (case q_c2 => first | k_is | rfl); (case q_k2 => first | k_is | rfl); (case q_a3 => first | k_is | rfl); (case q_l3 => first | k_is | rfl); (case q_c3 => first | k_is | rfl); (case q_k3 => first | k_is | rfl); (case q_a4 => first | k_is | rfl); (case q_l4 => first | k_is | rfl); (case q_c4 => first | k_is | rfl); (case q_k4 => first | k_is | rfl); (case q_a5 => first | k_is | rfl); (case q_l5 => first | k_is | rfl); (case q_c5 => first | k_is | rfl); (case q_k5 => first | k_is | rfl); (case q_a6 => first | k_is | rfl); (case q_l6 => first | k_is | rfl); (case q_c6 => first | k_is | rfl); (case q_k6 => first | k_is | rfl); (case q_a7 => first | k_is | rfl); (case q_l7 => first | k_is | rfl); (case q_c7 => first | k_is | rfl); (case q_k7 => first | k_is | rfl); (case q_a8 => first | k_is | rfl); (case q_l8 => first | k_is | rfl); (case q_c8 => first | k_is | rfl); (case q_k8 => first | k_is | rfl); (case q_a9 => first | k_is | rfl); (case q_l9 => first | k_is | rfl); (case q_c9 => first | k_is | rfl); (case q_k9 => first | k_is | rfl); (case q_a10 => first | k_is | rfl); (case q_l10 => first | k_is | rfl); (case q_c10 => first | k_is | rfl); (case q_k10 => first | k_is | rfl); (case q_a11 => first | k_is | rfl); (case q_l11 => first | k_is | rfl); (case q_c11 => first | k_is | rfl); (case q_k11 => first | k_is | rfl); (case q_a12 => first | k_is | rfl); (case q_l12 => first | k_is | rfl); (case q_c12 => first | k_is | rfl); (case q_k12 => first | k_is | rfl); (case q_a13 => first | k_is | rfl); (case q_l13 => first | k_is | rfl); (case q_c13 => first | k_is | rfl); (case q_k13 => first | k_is | rfl); (case q_a14 => first | k_is | rfl); (case q_l14 => first | k_is | rfl); (case q_c14 => first | k_is | rfl); (case q_k14 => first | k_is | rfl); (case q_a15 => first | k_is | rfl); (case q_l15 => first | k_is | rfl); (case q_c15 => first | k_is | rfl); (case q_k15 => first | k_is | rfl); (case q_a16 => first | k_is | rfl); (case q_l16 => first | k_is | rfl); (case q_c16 => first | k_is | rfl); (case q_k16 => first | k_is | rfl); (case q_a17 => first | k_is | rfl); (case q_l17 => first | k_is | rfl); (case q_c17 => first | k_is | rfl); (case q_k17 => first | k_is | rfl); (case q_a18 => first | k_is | rfl); (case q_l18 => first | k_is | rfl); (case q_c18 => first | k_is | rfl); (case q_k18 => first | k_is | rfl); (case q_a19 => first | k_is | rfl); (case q_l19 => first | k_is | rfl); (case q_c19 => first | k_is | rfl); (case q_k19 => first | k_is | rfl); (case q_a20 => first | k_is | rfl); (case q_l20 => first | k_is | rfl); (case q_c20 => first | k_is | rfl); (case q_k20 => first | k_is | rfl); (case q_a21 => first | k_is | rfl); (case q_l21 => first | k_is | rfl); (case q_c21 => first | k_is | rfl); (case q_k21 => first | k_is | rfl); (case q_a22 => first | k_is | rfl); (case q_l22 => first | k_is | rfl); (case q_c22 => first | k_is | rfl); (case q_k22 => first | k_is | rfl); (case q_a23 => first | k_is | rfl); (case q_l23 => first | k_is | rfl); (case q_c23 => first | k_is | rfl); (case q_k23 => first | k_is | rfl); (case q_a24 => first | k_is | rfl); (case q_l24 => first | k_is | rfl); (case q_c24 => first | k_is | rfl); (case q_k24 => first | k_is | rfl); (case q_a25 => first | k_is | rfl); (case q_l25 => first | k_is | rfl); (case q_c25 => first | k_is | rfl); (case q_k25 => first | k_is | rfl); (case q_a26 => first | k_is | rfl); (case q_l26 => first | k_is | rfl); (case q_c26 => first | k_is | rfl); (case q_k26 => first | k_is | rfl); (case q_a27 => first | k_is | rfl); (case q_l27 => first | k_is | rfl); (case q_c27 => first | k_is | rfl); (case q_k27 => first | k_is | rfl); (case q_a28 => first | k_is | rfl); (case q_l28 => first | k_is | rfl); (case q_c28 => first | k_is | rfl); (case q_k28 => first | k_is | rfl); (case q_a29 => first | k_is | rfl); (case q_l29 => first | k_is | rfl); (case q_c29 => first | k_is | rfl); (case q_k29 => first | k_is | rfl); (case q_z0 => first | k_is | rfl); (case q_z1 => first | k_is | rfl); (case q_z2 => first | k_is | rfl); (case q_z3 => first | k_is | rfl); (case q_z4 => first | k_is | rfl); (case q_z5 => first | k_is | rfl); (case q_z6 => first | k_is | rfl); (case q_z7 => first | k_is | rfl); (case q_z8 => first | k_is | rfl); (case q_z9 => first | k_is | rfl); (case q_z10 => first | k_is | rfl); (case q_z11 => first | k_is | rfl); (case q_z12 => first | k_is | rfl); (case q_z13 => first | k_is | rfl); (case q_z14 => first | k_is | rfl); (case q_z15 => first | k_is | rfl); (case q_z16 => first | k_is | rfl); (case q_g0 => first | k_is | rfl); (case q_g1 => first | k_is | rfl); (case q_g2 => first | k_is | rfl); (case q_g3 => first | k_is | rfl); (case q_g4 => first | k_is | rfl); (case q_g5 => first | k_is | rfl); (case q_g6 => first | k_is | rfl); (case q_g7 => first | k_is | rfl); (case q_g8 => first | k_is | rfl); (case q_g9 => first | k_is | rfl); (case q_gK1 => first | k_is | rfl); (case q_gK2 => first | k_is | rfl)
