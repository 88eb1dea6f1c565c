import PyProof.Rows.All
import Wide.All
import OpenK.AllK
import Wide.FinOn
import HandS.ForMost
import HandS.Defaults
import HandS.IsInst
import HandS.More
import HandS.Conv
import HandS.SortKw
import HandS.Strs
import HandS.Wide
import HandS.RaiseMore
import HandS.Star
import HandS.FStr
import HandS.TupAny
import HandS.Walk
import KE.KUnpackStar
import KE.SortCalls
import KE.DataEq
import KE.KDictList
import KE.KDictWalk
import KE.KDictKeyed
import HandS.SortRule
import HandS.TupSets
import PySem.Challenge.RW_sourceback_k91_edits_and_plans_written_a
set_option Elab.async false
set_option linter.all false
set_option maxRecDepth 100000
/-! Layer G: the promises of defs where no repr is under way (A.guards = some []): what repr of lists, tuples and dicts wants. -/
namespace GL
open PySem PySem.Spec PyProof.Rows L2

/-- a def keeps its promise, called where no repr is under way -/
structure FnG (P : Program) (w : World) (K : PySem.W.Frag) (mg : Str → Option Value) (base : Heap) (CX : CXT) (k : Nat) (f : Addr) (fd : FuncData) (ps : List Str) (sp : Sp) : Prop where
  len : ∀ vs H Q E, sp vs H Q E → vs.length = ps.length
  run : ∀ (A : Around) (outer : List Env) (s : Shared) (H : Hp) (args : Args) (us : List Value) (vs : List V) (Q : VK) (E : XK), Room k A → A.guards = some [] →
    Env0 P w K mg base A outer s H → BindsTo s fd args (ps.zip us) → Vals vs us → sp vs H Q E → codeAny (model P w) A (.call (.ref f) args) (CR CX outer P w H s Q E) s
section
variable {P : Program} {w : World} {K : PySem.W.Frag} {mg : Str → Option Value} {base : Heap} {CX : CXT} {j k : Nat} {f : Addr} {fd : FuncData} {ps : List Str} {sp sp' : Sp}
theorem FnG.of (F : FnOk P w K mg base CX k f fd ps sp) : FnG P w K mg base CX k f fd ps sp := ⟨F.len, fun A o s H a us vs Q E r _ => F.run A o s H a us vs Q E r⟩
theorem FnG.mono (F : FnG P w K mg base CX j f fd ps sp) (h : j ≤ k) : FnG P w K mg base CX k f fd ps sp := ⟨F.len, fun A o s H a us vs Q E r => F.run A o s H a us vs Q E (r.mono h)⟩
theorem FnG.imp (F : FnG P w K mg base CX k f fd ps sp) (h : ∀ vs H Q E, sp' vs H Q E → sp vs H Q E) : FnG P w K mg base CX k f fd ps sp' :=
  ⟨fun vs H Q E q => F.len vs H Q E (h _ _ _ _ q), fun A o s H a us vs Q E r g e0 hb hv hs => F.run A o s H a us vs Q E r g e0 hb hv (h _ _ _ _ hs)⟩
end

section
variable {X : Cx} {CX : CXT} {k : Nat} {f : Addr} {fd : FuncData} {ps ks : List Str} {sp : Sp} {dvs : List V} {ds : List Value} {E : XK} {x : Str} {p pos : Pos} {e : Expr} {es : List Expr} {kws : List Keyword} {t tk : TA}
  {g : List Value → List Value → List Value} {gV : List V → List V → List V}
/-- what stands behind a call that ran -/
theorem call_end {pins : List (Addr × Obj)} {σ : L2.St} {H : Hp} {s : Shared} {Q : VK} (hx : Passes CX X E) (I : Inv X pins σ H s) {args : Args} (h : codeAny (model X.prog X.w) X.A (.call (.ref f) args) (CR CX X.stack X.prog X.w H s Q E) s) :
    wpAny (model X.prog X.w) X.A (call (.ref f) args.pos args.kw) (EP X pins σ Q) X.xe s :=
  wpAny_call (codeAny_mono h fun r s' hq => match r, hq with
    | .error e, hq => hx pins σ H s e s' I hq
    | .ok (.ret _), hq => I.after hq
    | .ok .next, hq => hq.elim
    | .ok .brk, hq => hq.elim
    | .ok .cont, hq => hq.elim)
theorem run_g {pins : List (Addr × Obj)} {σ : L2.St} {H : Hp} {s : Shared} {Q : VK} {us : List Value} {vs : List V} (F : FnG X.prog X.w X.K X.mg X.base CX k f fd ps sp) (hr : Room k X.A) (hG : X.A.guards = some []) (hb : Binds X.K fd ps ds) (hd : Vals dvs ds)
    (hx : Passes CX X E) (I : Inv X pins σ H s) (r : Vals vs us) (h : sp (vs ++ dvs) H Q E) : wpAny (model X.prog X.w) X.A (call (.ref f) us) (EP X pins σ Q) X.xe s := by
  have r2 := r.append hd
  refine call_end (args := ⟨us, []⟩) hx I (F.run X.A X.stack s H ⟨us, []⟩ (us ++ ds) (vs ++ dvs) Q E hr hG I.env0 (hb s us I.kIn ?_) r2 h)
  exact r2.length.symm.trans (F.len _ _ _ _ h)
theorem run_gk {pins : List (Addr × Obj)} {σ : L2.St} {H : Hp} {s : Shared} {Q : VK} {us ws : List Value} {vs zs : List V} (F : FnG X.prog X.w X.K X.mg X.base CX k f fd ps sp) (hr : Room k X.A) (hG : X.A.guards = some []) (hb : KBinds X.K fd ps ks g gV)
    (hx : Passes CX X E) (I : Inv X pins σ H s) (r : Vals vs us) (rz : Vals zs ws) (h : sp (gV vs zs) H Q E) : wpAny (model X.prog X.w) X.A (call (.ref f) us (ks.zip ws)) (EP X pins σ Q) X.xe s := by
  have r2 := hb.rel r rz
  refine call_end (args := ⟨us, ks.zip ws⟩) hx I (F.run X.A X.stack s H ⟨us, ks.zip ws⟩ (g us ws) (gV vs zs) Q E hr hG I.env0 (hb.to s us ws I.kIn ?_) r2 h)
  exact r2.length.symm.trans (F.len _ _ _ _ h)
/-- f(e, ..) -/
theorem pe_callG (F : FnG X.prog X.w X.K X.mg X.base CX k f fd ps sp) (hr : Room k X.A) (hG : X.A.guards = some []) (hg : Gl X x) (hm : X.mg x = some (.ref f)) (hk : PySem.W.keepIn X.K (.ref f) = true) (hb : Binds X.K fd ps ds) (hd : Vals dvs ds)
    (hx : Passes CX X E) (ha : PA X (e :: es) t) (hdb : (x == ("__debug__" : Str)) = false := by decide) (he : starEach (e :: es) X.env = (false, eval e X.env) :: starEach es X.env := by rfl)
    (hpl : (backTo pos (starEach es X.env)).any (·.1) = false := by rfl) : PE X (.Call (.Name x p) (e :: es) [] pos) (tCall sp dvs E t) :=
  ⟨fun pins s σ H Q I h => wpAny_Call_Name_kw (ld_glob I hg hm (PySem.W.callWith_K (h₀ := X.base) I.ok.mod.kin hk
    (thn (ha.run pos pins s σ H _ I h) fun us s1 ⟨vs, H1, I1, r, q⟩ => ⟨I1.kIn, run_g F hr hG hb hd hx I1 r q⟩) he hpl) hdb)⟩
/-- f() -/
theorem pe_call0G (F : FnG X.prog X.w X.K X.mg X.base CX k f fd ps sp) (hr : Room k X.A) (hG : X.A.guards = some []) (hg : Gl X x) (hm : X.mg x = some (.ref f)) (hk : PySem.W.keepIn X.K (.ref f) = true) (hb : Binds X.K fd ps ds) (hd : Vals dvs ds)
    (hx : Passes CX X E) (hdb : (x == ("__debug__" : Str)) = false := by decide) : PE X (.Call (.Name x p) [] [] pos) (tCall sp dvs E tNil) :=
  ⟨fun pins s σ H Q I h => wpAny_Call_Name_kw (ld_glob I hg hm (PySem.W.callWith_K0 I.kIn hk (run_g (us := []) F hr hG hb hd hx I .nil h)) hdb)⟩
/-- f(e, .., k = v, ..) -/
theorem pe_callKG (F : FnG X.prog X.w X.K X.mg X.base CX k f fd ps sp) (hr : Room k X.A) (hG : X.A.guards = some []) (hg : Gl X x) (hm : X.mg x = some (.ref f)) (hk : PySem.W.keepIn X.K (.ref f) = true) (hb : KBinds X.K fd ps ks g gV) (hx : Passes CX X E)
    (ha : PA X (e :: es) t) (hkw : PK X kws tk) (hall : (backToKw pos (keywordEach kws X.env)).all (·.1.isSome) = true := by rfl) (hks : (backToKw pos (keywordEach kws X.env)).filterMap (·.1) = ks := by rfl)
    (hdb : (x == ("__debug__" : Str)) = false := by decide) (he : starEach (e :: es) X.env = (false, eval e X.env) :: starEach es X.env := by rfl)
    (hpl : ((backTo pos (starEach (e :: es) X.env)).any (·.1) || (backToKw pos (keywordEach kws X.env)).any (·.1.isNone)) = false := by rfl) : PE X (.Call (.Name x p) (e :: es) kws pos) (tCallK sp gV E t tk) := by
  refine ⟨fun pins s σ H Q I h => wpAny_Call_Name_kw (ld_glob I hg hm (PySem.W.callWith_KW (h₀ := X.base) I.ok.mod.kin hk hall (thn (ha.run pos pins s σ H _ I h) fun us s1 ⟨vs, H1, I1, r, q⟩ =>
    thn (hkw.run pos pins s1 σ H1 _ I1 q) fun ws s2 ⟨zs, H2, I2, rz, q2⟩ => ⟨I2.kIn, ?_⟩) hpl he) hdb)⟩
  rw [hks]
  exact run_gk F hr hG hb hx I2 r rz q2
/-- f(k = v, ..) -/
theorem pe_callK0G (F : FnG X.prog X.w X.K X.mg X.base CX k f fd ps sp) (hr : Room k X.A) (hG : X.A.guards = some []) (hg : Gl X x) (hm : X.mg x = some (.ref f)) (hk : PySem.W.keepIn X.K (.ref f) = true) (hb : KBinds X.K fd ps ks g gV) (hx : Passes CX X E)
    (hkw : PK X kws tk) (hall : (backToKw pos (keywordEach kws X.env)).all (·.1.isSome) = true := by rfl) (hks : (backToKw pos (keywordEach kws X.env)).filterMap (·.1) = ks := by rfl) (hdb : (x == ("__debug__" : Str)) = false := by decide)
    (hpl : ((backTo pos (starEach [] X.env)).any (·.1) || (backToKw pos (keywordEach kws X.env)).any (·.1.isNone)) = false := by rfl) : PE X (.Call (.Name x p) [] kws pos) (tCallK sp gV E tNil tk) := by
  refine ⟨fun pins s σ H Q I h => wpAny_Call_Name_kw (ld_glob I hg hm (PySem.W.callWith_KW0 (h₀ := X.base) I.ok.mod.kin hk hall (thn (hkw.run pos pins s σ H _ I h) fun ws s1 ⟨zs, H1, I1, rz, q1⟩ => ⟨I1.kIn, ?_⟩) hpl) hdb)⟩
  rw [hks]
  exact run_gk F hr hG hb hx I1 .nil rz q1
end

section
variable {P : Program} {w : World} {K : PySem.W.Frag} {mg : Str → Option Value} {base : Heap}
/-- a def's promise by its body -/
theorem okG {CX : CXT} {x qual : Str} {st : Stmt} {f : Addr} {fd : FuncData} {N ps : List Str} {k : Nat} {sp : Sp} (F : Fun K x qual st f fd) (S : FnScope N ps (defScope st)) (len : ∀ vs H Q E, sp vs H Q E → vs.length = ps.length)
    (body : ∀ (cdv : Value) (A : Around) (outer : List Env) (s : Shared) (H : Hp) (vs : List V) (Q : VK) (E : XK), Room k (A.deeper (envOfC qual (defScope st) s.heap.objs.size f cdv)) → A.guards = some [] → sp vs H Q E →
      ∃ t, PSs (cxOf CX P w K mg base N qual (defScope st) f cdv A outer s H E) (defBody st) t ∧ t { nx := fun _ H' => Q .non H', rt := Q } (start N vs) H) : FnG P w K mg base CX (k + 1) f fd ps sp := by
  obtain ⟨oc, od, kV, doc, pm, an, cdv, ct, osl, rfl, lk, hcd⟩ := F.ex
  refine ⟨len, fun A outer s H args us vs Q E hr hG e0 hb rel hsp => ?_⟩
  have low : ∀ b o, base.get? b = some o → s.heap.get? b = some o := fun b o e => (e0.bs b o e).1
  have KX : K.In s.heap := e0.mod.kin.keeps low
  refine codeAny_call_function hr.depth (KX _ _ lk) rfl S.co S.gen rfl (PySem.W.codeRec_of KX hcd) (hb _ _ _ _ (wpAny_newFunctionEnv_cells S.kind ?kind fun env he s1 x => ?_))
  case kind =>
    rintro ⟨n, v⟩ hy
    exact (S.par n (List.of_mem_zip hy).1).imp id fun q => ⟨q, PySem.W.cellsFrom_some _ _ _ (.inl q)⟩
  subst he
  refine ⟨(e0.mod.nolimit.keeps low).keeps x.toInCall.keep, codeAny_func ?_⟩
  obtain ⟨t, ht, hq⟩ := body cdv A outer s H vs Q E (hr.deeper _) hG hsp
  have I := inv_start (CX := CX) (E := E) (qual := qual) (f := f) (cd := cdv) S hr.hd e0 (len _ _ _ _ hsp) rel x
  refine wpAny_mono (ht.run [] s1 (start N vs) H _ I hq) (fun fl s' hs => ?_) fun e s' hs => hs
  match fl, hs with
  | .ret u, ⟨v, σ', H', J, rv, q⟩ => exact ⟨v, H', J.os, J.bare, J.base, J.hok, rv, q⟩
  | .next, ⟨σ', H', J, q⟩ => exact ⟨.non, H', J.os, J.bare, J.base, J.hok, rfl, q⟩
  | .brk, ⟨_, _, _, q⟩ => exact q.elim
  | .cont, ⟨_, _, _, q⟩ => exact q.elim
/-- the same, nothing is raised out of the def -/
theorem okG0 {x qual : Str} {st : Stmt} {f : Addr} {fd : FuncData} {N ps : List Str} {k : Nat} {sp : Sp} (F : Fun K x qual st f fd) (S : FnScope N ps (defScope st)) (len : ∀ vs H Q E, sp vs H Q E → vs.length = ps.length)
    (body : ∀ (cdv : Value) (A : Around) (outer : List Env) (s : Shared) (H : Hp) (vs : List V) (Q : VK) (E : XK), Room k (A.deeper (envOfC qual (defScope st) s.heap.objs.size f cdv)) → A.guards = some [] → sp vs H Q E →
      ∃ t, PSs (cxOf CX0 P w K mg base N qual (defScope st) f cdv A outer s H E).nox (defBody st) t ∧ t { nx := fun _ H' => Q .non H', rt := Q } (start N vs) H) : FnG P w K mg base CX0 (k + 1) f fd ps sp :=
  okG F S len fun cdv A outer s H vs Q E hr hG h => let ⟨t, h1, h2⟩ := body cdv A outer s H vs Q E hr hG h; ⟨t, h1.nox, h2⟩

/-- the law's call: H tells the script alone (or nothing, where it is an object of the top) -/
theorem law_at {CX : CXT} {k : Nat} {fa a : Addr} {fd : FuncData} {x : Str} {sp : Sp} {s₁ : Shared} {mb : Str → Option Value} {H : Hp} (KX : K.In s₁.heap) (hns : s₁.heap.Ns mainGlobals mg) (hb : s₁.heap.Ns builtinsNs mb) (hbb : ∀ x : Str, x ≠ "__name__" → mb x = bootBuiltins x)
    (hlim : s₁.heap.NoLimit) (hg : s₁.gens = #[]) (hr : Room k callerA) (hok : HOk P w H s₁.heap) (hO : Only H) (hK : ∀ b, H b ≠ none → K.lookup b = none) (hD : ∀ b o es ep, s₁.heap.get? b = some o → o.data = .dict es ep → H b = none)
    (F : ∀ base : Heap, K.In base → base.Ns mainGlobals mg → FnG P w K mg base CX k fa fd [x] sp) (hbind : ∀ (s : Shared) (u : Value), BindsTo s fd ⟨[u], []⟩ [(x, u)])
    (hsp : sp [.ref a] H (fun v _ => v = .bl true) fun _ _ _ => False) (hCX : ∀ e s', CX [] H s₁ (fun _ _ _ => False) e s' → False) :
    codeAny (model P w) callerA (.call (.ref fa) ⟨[.ref a], []⟩) (fun r s' => r = .ok (.ret (.bool true)) ∧ OldK s₁.heap s'.heap ∧ s'.os = s₁.os ∧ AllBare s'.gens) s₁ := by
  have nsB : ∀ {b : Addr} {m : Str → Option Value}, s₁.heap.Ns b m → (hidT s₁.heap H).Ns b m := fun ⟨o, es, ep, e, d, r⟩ => ⟨o, es, ep, hidT_get e (hD _ _ _ _ e d), d, r⟩
  have kB : K.In (hidT s₁.heap H) := fun b o e => hidT_get (KX b o e) (Classical.byContradiction fun z => by
    have := hK b z
    rw [e] at this
    cases this)
  have md : Mod K mg (hidT s₁.heap H) := ⟨kB, nsB hns, ⟨mb, nsB hb, hbb⟩, let ⟨mc, h1, h2⟩ := hlim; ⟨mc, nsB h1, h2⟩⟩
  have e0 : Env0 P w K mg (hidT s₁.heap H) callerA [] s₁ H := ⟨rfl, md, fun _ _ e => of_hidT e, Nat.le_of_eq (hidT_size _ _), trivial, (fun b z => absurd (show b ∈ ([] : List Addr) from z) (by simp)), hok, AllBare.of_eq hg⟩
  refine codeAny_mono ((F _ kB (nsB hns)).run callerA [] s₁ H ⟨[.ref a], []⟩ [.ref a] [.ref a] _ _ hr rfl e0 (hbind s₁ (.ref a)) (.cons rfl .nil) hsp) fun r s' h => ?_
  match r, h with
  | .error e, h => exact (hCX e s' h).elim
  | .ok .next, h => exact h.elim
  | .ok .brk, h => exact h.elim
  | .ok .cont, h => exact h.elim
  | .ok (.ret u), ⟨v, H', os, bare, un, hok', rv, q⟩ =>
    obtain rfl : v = V.bl true := q
    obtain rfl : u = Value.bool true := rv
    refine ⟨rfl, OldK.of_keep fun b o e => ?_, os, bare⟩
    rcases hO b with z | ⟨ob, xs, z⟩
    · exact un.keep b o e z (fun y => absurd (show b ∈ ([] : List Addr) from y) (by simp)) (by simp)
    · have e1 := (hok b _ z).1
      have e2 := (hok' b _ (un.frzs b ob _ z)).1
      rw [← Option.some.inj (e1.symm.trans e)]
      exact e2
end
/-- the goal that k_head leaves, by the law's promise -/
theorem walk_ofG {l : PySem.W.OpenLaw} {n k : Nat} {q : Program} {loose : List Str} {XP : (Str → Option Value) → Heap → Prop} {YP : World → Heap → Prop} {d : DefRec} {K : Params → PySem.W.Frag} {CX : World → CXT} {sp : World → Sp} {x : Str}
    (hn : l.most = some n) (hn2 : n ≤ sizeLine) (hdf : d.params.defaults = []) (hr : Room k callerA) (hY : ∀ (w : World) (h : Heap), YP w h → (K w.params).In h)
    (F : ∀ (w : World) (mg : Str → Option Value) (fa : Addr) (h : Heap), (K w.params).In h → h.Ns mainGlobals mg → mg d.name = some (.ref fa) → ∃ fd : FuncData, (∀ (s : Shared) (u : Value), BindsTo s fd ⟨[u], []⟩ [(x, u)]) ∧
      ∀ base : Heap, (K w.params).In base → base.Ns mainGlobals mg → FnG l.prog w (K w.params) mg base (CX w) k fa fd [x] (sp w))
    (hsp : ∀ (w : World) (H : Hp) (a : Addr) (ns : List Int), ns.length ≤ n → Only H → SqL (K w.params) H a (ns.map V.int) → sp w [.ref a] H (fun v _ => v = .bl true) fun _ _ _ => False)
    (hCX : ∀ (w : World) (H : Hp) (s : Shared) (e : Value) (s' : Shared), CX w [] H s (fun _ _ _ => False) e s' → False) : PySem.W.WalkO q loose XP YP l.row.toRowW d [] (fun f vs => PySem.call f vs) := by
  refine Att.attach_call hn hdf fun w s₀ s₁ mg mb fa o pm cd doc a vs ns G Y ho hd hcd hmg hobj hints hlen hg => ?_
  have KX := hY w _ Y
  obtain ⟨fd, hb, hF⟩ := F w mg fa _ KX G.T.g hmg
  have rv := vals_ints hints
  have lenV := hints.length
  have hl : ns.length ≤ sizeLine := Nat.le_trans hlen hn2
  cases hk : (K w.params).lookup a with
  | some ob =>
    have e := KX a ob hk
    rw [hobj] at e
    cases e
    refine law_at (H := fun _ => none) KX G.T.g G.T.b G.T.builtins G.T.nolimit hg hr (fun b u z => nomatch z) (fun _ => .inl rfl) (fun b z => absurd rfl z) (fun _ _ _ _ _ _ => rfl) hF hb
      (hsp w _ a ns hlen (fun _ => .inl rfl) (.inr ⟨_, vs.toArray, _, hk, rfl, rfl, rfl, by rw [List.size_toArray, lenV]; exact hl, by simpa using rv⟩)) fun e s' => hCX w _ s₁ e s'
  | none =>
    have at' : ∀ {b : Addr} {u : HO}, (if b = a then some (HO.frz { cls := .type "list", data := .seq vs.toArray } (.lst (ns.map V.int))) else none) = some u → b = a ∧ u = .frz { cls := .type "list", data := .seq vs.toArray } (.lst (ns.map V.int)) := fun {b u} z => by
      by_cases hba : b = a
      · rw [if_pos hba] at z
        exact ⟨hba, (Option.some.inj z).symm⟩
      · rw [if_neg hba] at z
        cases z
    have only : Only fun b => if b = a then some (HO.frz { cls := .type "list", data := .seq vs.toArray } (.lst (ns.map V.int))) else none := fun b => by
      by_cases hba : b = a
      · exact .inr ⟨_, _, if_pos hba⟩
      · exact .inl (if_neg hba)
    refine law_at (H := fun b => if b = a then some (.frz { cls := .type "list", data := .seq vs.toArray } (.lst (ns.map V.int))) else none) KX G.T.g G.T.b G.T.builtins G.T.nolimit hg hr (fun b u z => ?_) only (fun b z => ?_) (fun b o es ep e d => ?_) hF hb
      (hsp w _ a ns hlen only (.inl (.inr ⟨{ cls := .type "list", data := .seq vs.toArray }, if_pos rfl⟩))) fun e s' => hCX w _ s₁ e s'
    · obtain ⟨rfl, rfl⟩ := at' z
      exact ⟨hobj, by rw [List.length_map]; exact hl, vs, _, rv, hobj⟩
    · by_cases hba : b = a
      · rw [hba]
        exact hk
      · exact absurd (if_neg hba) z
    · by_cases hba : b = a
      · subst hba
        rw [hobj] at e
        cases e
        cases d
      · exact if_neg hba
end GL

set_option Elab.async false
set_option linter.all false
set_option maxRecDepth 100000
/-! Data: None, bools, ints, texts, lists, tuples and dicts (with text and int keys) at any depth, as they stand in H; repr of them -/
namespace GL
open PySem PySem.Spec PyProof.Rows L2

def keyD : Key → PyData
  | .inl i => .int i
  | .inr x => .str x
mutual
inductive DV (K : PySem.W.Frag) (H : Hp) : V → PyData → Prop
  | non : DV K H .non .none
  | bl (b : Bool) : DV K H (.bl b) (.bool b)
  | int (i : Int) : DV K H (.int i) (.int i)
  | str (x : Str) : DV K H (.str x) (.str x)
  | lst {a : Addr} {xs : List V} {ds : List PyData} : SqL K H a xs → a ≠ sysModules → DVs K H xs ds → DV K H (.ref a) (.list ds)
  | tup {a : Addr} {xs : List V} {ds : List PyData} : SqT K H a xs → DVs K H xs ds → DV K H (.ref a) (.tuple ds)
  | dct {a : Addr} {kvs : List (Key × V)} {ds : List (PyData × PyData)} : Rd H a (.dK kvs) → DVk K H kvs ds → DV K H (.ref a) (.dict ds)
inductive DVs (K : PySem.W.Frag) (H : Hp) : List V → List PyData → Prop
  | nil : DVs K H [] []
  | cons {v : V} {vs : List V} {d : PyData} {ds : List PyData} : DV K H v d → DVs K H vs ds → DVs K H (v :: vs) (d :: ds)
inductive DVk (K : PySem.W.Frag) (H : Hp) : List (Key × V) → List (PyData × PyData) → Prop
  | nil : DVk K H [] []
  | cons {k : Key} {v : V} {vs : List (Key × V)} {d : PyData} {ds : List (PyData × PyData)} : DV K H v d → DVk K H vs ds → DVk K H ((k, v) :: vs) ((keyD k, d) :: ds)
end
theorem same_T {K : PySem.W.Frag} {H H' : Hp} {a : Addr} {xs : List V} (e : Same H H') (h : SqT K H a xs) : SqT K H' a xs := by
  rcases h with (h | ⟨o, h⟩) | h
  · exact .inl (.inl (e _ _ h))
  · exact .inl (.inr ⟨o, e _ _ h⟩)
  · exact .inr h
mutual
theorem DV.same {K : PySem.W.Frag} {H H' : Hp} (e : Same H H') : ∀ {v : V} {d : PyData}, DV K H v d → DV K H' v d
  | _, _, .non => .non
  | _, _, .bl b => .bl b
  | _, _, .int i => .int i
  | _, _, .str x => .str x
  | _, _, .lst h n t => .lst (e.seq h) n (DVs.same e t)
  | _, _, .tup h t => .tup (same_T e h) (DVs.same e t)
  | _, _, .dct h t => .dct (h.elim (fun z => .inl (e _ _ z)) fun ⟨o, z⟩ => .inr ⟨o, e _ _ z⟩) (DVk.same e t)
theorem DVs.same {K : PySem.W.Frag} {H H' : Hp} (e : Same H H') : ∀ {v : List V} {d : List PyData}, DVs K H v d → DVs K H' v d
  | _, _, .nil => .nil
  | _, _, .cons a t => .cons (DV.same e a) (DVs.same e t)
theorem DVk.same {K : PySem.W.Frag} {H H' : Hp} (e : Same H H') : ∀ {v : List (Key × V)} {d : List (PyData × PyData)}, DVk K H v d → DVk K H' v d
  | _, _, .nil => .nil
  | _, _, .cons a t => .cons (DV.same e a) (DVk.same e t)
end
section
variable {X : Cx} {pins : List (Addr × Obj)} {σ : L2.St} {H : Hp} {s : Shared}
theorem keyD_reads {k : Key} {v : Value} (h : keyIs k v = true) : Reads s.heap v (keyD k) [] := by
  rcases keyIs_shape h with ⟨i, t, rfl, rfl⟩ | ⟨x, t, rfl, rfl⟩
  · exact Reads.int i t
  · exact Reads.str x t
mutual
theorem DV.reads (I : Inv X pins σ H s) : ∀ {v : V} {d : PyData} {u : Value}, DV X.K H v d → RelV v u → ∃ as, Reads s.heap u d as ∧ sysModules ∉ as
  | _, _, _, .non, r => by
    cases r
    exact ⟨_, Reads.none, by simp⟩
  | _, _, _, .bl b, r => by
    cases r
    exact ⟨_, Reads.bool b, by simp⟩
  | _, _, _, .int i, r => by
    obtain ⟨t, rfl⟩ := r
    exact ⟨_, Reads.int i t, by simp⟩
  | _, _, _, .str x, r => by
    obtain ⟨t, rfl⟩ := r
    exact ⟨_, Reads.str x t, by simp⟩
  | _, _, _, .lst h n t, r => by
    cases r
    obtain ⟨its, rv, pl, _⟩ := I.list h
    obtain ⟨o, ho, hc, m, hd⟩ := pl.isList
    obtain ⟨as, ra, na⟩ := DVs.reads I t rv
    refine ⟨_, Reads.list ho hc hd (by simpa using ra), fun z => ?_⟩
    rcases List.mem_cons.mp z with z | z
    · exact n z.symm
    · exact na z
  | _, _, _, .tup h t, r => by
    cases r
    obtain ⟨its, rv, ⟨o, ho, hc, m, hd⟩, _⟩ := I.tuple h
    obtain ⟨as, ra, na⟩ := DVs.reads I t rv
    exact ⟨_, Reads.tuple ho hc hd (by simpa using ra), na⟩
  | _, _, _, .dct h t, r => by
    cases r
    obtain ⟨_, hs, vs, rel, o, es, ep, ho, hx, hd, _, pr, _⟩ := dk_rd I.hok h
    obtain ⟨as, ra, rb, na⟩ := DVk.reads I t rel pr
    refine ⟨_, Reads.dict ho hx.1 hd ra rb, fun z => ?_⟩
    rcases List.mem_append.mp z with z | z
    · rcases List.mem_cons.mp z with z | z
      · exact beq_eq_false_iff_ne.mp hs z.symm
      · exact absurd z (by simp)
    · exact na z
theorem DVs.reads (I : Inv X pins σ H s) : ∀ {v : List V} {d : List PyData} {u : List Value}, DVs X.K H v d → Vals v u → ∃ as, ReadsAll s.heap u d as ∧ sysModules ∉ as
  | _, _, _, .nil, .nil => ⟨_, ReadsAll.nil, by simp⟩
  | _, _, _, .cons a t, .cons r q => by
    obtain ⟨as, ra, na⟩ := DV.reads I a r
    obtain ⟨bs, rb, nb⟩ := DVs.reads I t q
    exact ⟨_, ReadsAll.cons ra rb, fun z => (List.mem_append.mp z).elim na nb⟩
theorem DVk.reads (I : Inv X pins σ H s) : ∀ {v : List (Key × V)} {d : List (PyData × PyData)} {u : List (Key × Value)} {es : List DictEntry}, DVk X.K H v d → KV v u → Pairs (mixKind X.prog X.w) es u →
    ∃ bs, ReadsAll s.heap (es.map (·.key)) (d.map (·.1)) [] ∧ ReadsAll s.heap (es.map (·.val)) (d.map (·.2)) bs ∧ sysModules ∉ bs
  | _, _, _, _, .nil, .nil, .nil => ⟨_, ReadsAll.nil, ReadsAll.nil, by simp⟩
  | _, _, _, _, .cons (k := k) a t, .cons r q, .cons hk ev p => by
    obtain ⟨as, ra, na⟩ := DV.reads I a r.2
    obtain ⟨bs, r1, r2, nb⟩ := DVk.reads I t q p
    rw [← ev] at ra
    rw [← r.1] at hk
    exact ⟨as ++ bs, ReadsAll.cons (as := []) (keyD_reads (k := k) hk) r1, ReadsAll.cons ra r2, fun z => (List.mem_append.mp z).elim na nb⟩
end
/-- repr(x) of data -/
def rRepr (K : PySem.W.Frag) : List V → Hp → VK → Prop := fun vs H Q => ∃ (x : V) (d : PyData), vs = [x] ∧ DV K H x d ∧ d.showable = true ∧ d.depth ≤ 60 ∧ d.shown.length ≤ sizeLine ∧ Q (.str d.shown) H
theorem call_reprD (hG : X.A.guards = some []) (hu : X.A.units + 64 < cLine) : CallR X (.builtin "repr") (rRepr X.K) := by
  intro pins s σ H vs us Q I r h
  obtain ⟨x, d, rfl, hd, sh, dp, sz, q⟩ := h
  obtain ⟨u, rfl, ru⟩ := vals1 r
  have out : ∀ {t : Tok} {tk : Nat}, EP X pins σ Q (.str d.shown t) { s with toks := tk } := fun {t tk} => ⟨.str d.shown, H, I.tok _, ⟨t, rfl⟩, q⟩
  cases hd with
  | non =>
    cases ru
    exact P.repr_of_none out
  | bl b =>
    cases ru
    refine P.repr_of_bool ?_
    cases b <;> exact out
  | int i =>
    obtain ⟨t, rfl⟩ := ru
    exact P.repr_of_int (of_decide_eq_true (by simpa [PyData.showable] using sh)) out
  | str z =>
    obtain ⟨t, rfl⟩ := ru
    exact P.repr_of_str out sz
  | lst h1 h2 h3 =>
    cases ru
    obtain ⟨as, ra, na⟩ := DV.reads I (DV.lst h1 h2 h3) rfl
    exact repr_of_reads' ra sh (fun _ => na) hG (by omega) (fun _ _ e => e) (fun h' t tk hk => ⟨.str _, H, I.kept hk, ⟨t, rfl⟩, q⟩) sz
  | tup h1 h2 =>
    cases ru
    obtain ⟨as, ra, na⟩ := DV.reads I (DV.tup h1 h2) rfl
    exact repr_of_reads' ra sh (fun _ => na) hG (by omega) (fun _ _ e => e) (fun h' t tk hk => ⟨.str _, H, I.kept hk, ⟨t, rfl⟩, q⟩) sz
  | dct h1 h2 =>
    cases ru
    obtain ⟨as, ra, na⟩ := DV.reads I (DV.dct h1 h2) rfl
    exact repr_of_reads' ra sh (fun _ => na) hG (by omega) (fun _ _ e => e) (fun h' t tk hk => ⟨.str _, H, I.kept hk, ⟨t, rfl⟩, q⟩) sz
/-- [a, b, ..], where it stands known to be none of the system's own -/
def tLstB (t : TA) : TE := fun σ H Q => t σ H fun xs H1 => xs.length ≤ sizeLine ∧ ∀ p, H1 p = none → p ≠ sysModules → Q (.ref p) (upd H1 p (.lst xs))
theorem pe_lstB {es : List Expr} {t : TA} {pos : Pos} (h : PA X es t) : PE X (.List es pos) (tLstB t) := by
  refine ⟨fun pins s σ H Q I hq => wpAny_List_spliced (thn (h.run pos pins s σ H _ I hq) fun us s1 ⟨xs, H1, I1, r, z, q⟩ => ⟨by rw [← r.length]; exact z, ?_⟩)⟩
  exact ⟨.ref s1.heap.objs.size, _, I1.laid (o := .lst xs) (t' := s1.toks) (fun b u e => Heap.get?_push_of_some _ e) (Nat.le_refl _) ⟨z, us, 0, r, Heap.get?_push_size _ rfl⟩, rfl, q _ (I1.hok.fresh (Nat.le_refl _)) (Nat.ne_of_gt I1.big)⟩
end
/-- a def of the program by its promise, as a caller wants it -/
structure DnG (P : Program) (w : World) (K : PySem.W.Frag) (mg : Str → Option Value) (base : Heap) (x : Str) (k : Nat) (ps : List Str) (sp : Sp) where
  f : Addr
  fd : FuncData
  ok : FnG P w K mg base CX0 k f fd ps sp
  g : mg x = some (.ref f)
  kp : PySem.W.keepIn K (.ref f) = true
  b : Binds K fd ps []
section
variable {X : Cx}
/-- list(s) of a text -/
def signs (x : Str) : List V := x.cps.toList.map fun c => V.str ⟨#[c]⟩
theorem call_listS (hc : X.calm = true) : CallR X (.type "list") (fun xs H Q => ∃ x : Str, xs = [.str x] ∧ x.length ≤ sizeLine ∧ ∀ l, H l = none → Q (.ref l) (upd H l (.lst (signs x)))) := by
  intro pins s σ H xs us Q I r h
  obtain ⟨x, rfl, hz, q⟩ := h
  obtain ⟨u, rfl, t, rfl⟩ := vals1 r
  refine call_list_str (I.ok.hd hc) x t (fun h' tk acc c hk hS hacc => ?_) hz
  have len : acc.toList.length = x.cps.toList.length := by
    rw [Array.length_toList, Array.length_toList]
    exact hacc.1
  refine ⟨.ref s.heap.objs.size, _, I.laid (o := .lst (signs x)) hk (Nat.le_refl _) ⟨?_, acc.toList, c, ?_, by rw [Array.toArray_toList]; exact hS⟩, rfl, q _ (I.hok.fresh (Nat.le_refl _))⟩
  · unfold signs
    rw [List.length_map, Array.length_toList]
    exact hz
  · refine vals_of_at (by rw [signs, List.length_map, len]) fun j v u h1 h2 => ?_
    obtain ⟨c', u', e1, rfl⟩ := hacc.2 j u (by rw [← h2, Array.getElem?_toList])
    rw [signs, List.getElem?_map, Array.getElem?_toList, e1] at h1
    cases h1
    exact ⟨u', rfl⟩
end
end GL

set_option Elab.async false
set_option linter.all false
set_option maxRecDepth 100000
/-! rules that the layer lacks: max(xs, default=d), tuple.index of flat things, a power of a great number -/
namespace GL
open PySem PySem.Spec PyProof.Rows L2

section
variable {prog : Program} {w : World} {A : Around} {R : Result → Shared → Prop} {I S : Addr} {fp wr : List Addr} {n : Nat} {P : Nat → Value → Prop} {St : Nat → Heap → Prop} {bt : Nat → Nat → Bool} {kw : List (Str × Value)}

/-- the list that holds the best item so far -/
abbrev keptAt (h : Heap) (S : Addr) (vs : Array Value) : Prop := ∃ c, h.get? S = some { cls := .type "list", dict := none, data := .seq vs c, slots := #[] }

/-- max.loop with keywords, an item being held: d turns are left -/
theorem loop_kw (W : Walks prog w A.in1 I fp wr n P St) (cmp : CmpOf prog w A.in1 .Gt P bt) (out : S ∉ fp) :
    ∀ (d j : Nat), j + 1 + d = n → ∀ (s : Shared) (v0 : Value), St (j + 1) s.heap → P (argBest bt j) v0 → keptAt s.heap S #[v0, v0] →
      (∀ v h' tk, P (argBest bt (n - 1)) v → (∀ b o, b ∉ wr → b ≠ S → s.heap.get? b = some o → h'.get? b = some o) → R (.ok (.ret v)) { s with heap := h', toks := tk }) →
      codeAny (model prog w) A (.builtin "max.loop" ⟨[.ref I, .none, .ref S], kw⟩) R s := by
  have outW : S ∉ wr := fun z => out (W.sub _ z)
  have nm : (toString "max" ++ toString ".loop" : String) = "max.loop" := by decide
  intro d
  induction d with
  | zero =>
    intro j ej s v0 st p0 ⟨c, hS⟩ fin
    refine codeAny_builtin F.entry_max_loop ?_ <;> rw [Around.under_plainId F.plain_max_loop _]
    show wpAny (model prog w) A.in1 (seqItems? (.ref S) >>= _) _ _ s
    refine wpAny_bind (wpAny_seqItems hS rfl (wpAny_bind (wpAny_tryCatch (W.done s _ _ (show St n s.heap from ej ▸ st) fun h1 t1 keep => ?_))))
    have hS1 := keep S _ outW hS
    refine wpAny_bind (wpAny_updateSeq hS1 rfl (wpAny_bind (wpAny_letGo (wpAny_pure (fin v0 _ t1 ?_ fun b o nb ns e => ?_)))))
    · have e1 : n - 1 = j := by omega
      rw [e1]
      exact p0
    · exact (Heap.get?_update_other _ _ (Ne.symm ns)).trans (keep b o nb e)
  | succ d ih =>
    intro j ej s v0 st p0 ⟨c, hS⟩ fin
    refine codeAny_builtin F.entry_max_loop ?_ <;> rw [Around.under_plainId F.plain_max_loop _]
    show wpAny (model prog w) A.in1 (seqItems? (.ref S) >>= _) _ _ s
    refine wpAny_bind (wpAny_seqItems hS rfl (wpAny_bind (wpAny_tryCatch (W.item (j + 1) s _ _ (by omega) st fun v h1 t1 pv st1 keep => ?_))))
    have hS1 := keep S _ outW hS
    refine wpAny_bind (wpAny_pure (wpAny_bind (wpAny_tryCatch (wpAny_holding (wpAny_bind (cmp (j + 1) (argBest bt j) v v0 _ _ _ pv p0 ?_))))))
    refine wpAny_bind (wpAny_holding (wpAny_truthy_bool (wpAny_bind (wpAny_letGo (wpAny_pure ?_)))))
    cases hb : bt (j + 1) (argBest bt j) with
    | true =>
      have p1 : P (argBest bt (j + 1)) v := by
        simp only [argBest, hb, if_true]
        exact pv
      simp only [if_true]
      refine wpAny_bind (wpAny_updateSeq hS1 rfl (wpAny_bind (wpAny_letGo ?_)))
      rw [nm]
      refine wpAny_pure ⟨plainId_quiet F.plain_max_loop _, ih (j + 1) (by omega) _ v (W.frame _ _ _ st1 fun b hb o e => ?_) p1 ⟨_, Heap.get?_update_self _ hS1 rfl⟩ fun v' h2 t2 pv' keep2 => ?_⟩
      · exact (Heap.get?_update_other _ _ (fun z : S = b => out (by rw [z]; exact hb))).trans e
      · exact fin v' h2 t2 pv' fun b o nb ns e => keep2 b o nb ns ((Heap.get?_update_other _ _ (Ne.symm ns)).trans (keep b o nb e))
    | false =>
      have p1 : P (argBest bt (j + 1)) v0 := by
        simp only [argBest, hb, Bool.false_eq_true, if_false]
        exact p0
      simp only [Bool.false_eq_true, if_false]
      refine wpAny_bind (wpAny_letGo ?_)
      rw [nm]
      refine wpAny_pure ⟨plainId_quiet F.plain_max_loop _, ih (j + 1) (by omega) _ v0 st1 p1 ⟨_, hS1⟩ fun v' h2 t2 pv' keep2 => ?_⟩
      exact fin v' h2 t2 pv' fun b o nb ns e => keep2 b o nb ns (keep b o nb e)

/-- max.loop with keywords, before the first item -/
theorem loop_kw0 (W : Walks prog w A.in1 I fp wr n P St) (cmp : CmpOf prog w A.in1 .Gt P bt) (out : S ∉ fp) (pos : 0 < n) {s : Shared} (st : St 0 s.heap) (kS : keptAt s.heap S #[])
    (fin : ∀ v h' tk, P (argBest bt (n - 1)) v → (∀ b o, b ∉ wr → b ≠ S → s.heap.get? b = some o → h'.get? b = some o) → R (.ok (.ret v)) { s with heap := h', toks := tk }) :
    codeAny (model prog w) A (.builtin "max.loop" ⟨[.ref I, .none, .ref S], kw⟩) R s := by
  have outW : S ∉ wr := fun z => out (W.sub _ z)
  have nm : (toString "max" ++ toString ".loop" : String) = "max.loop" := by decide
  obtain ⟨c, hS⟩ := kS
  refine codeAny_builtin F.entry_max_loop ?_ <;> rw [Around.under_plainId F.plain_max_loop _]
  show wpAny (model prog w) A.in1 (seqItems? (.ref S) >>= _) _ _ s
  refine wpAny_bind (wpAny_seqItems hS rfl (wpAny_bind (wpAny_tryCatch (W.item 0 s _ _ pos st fun v h1 t1 pv st1 keep => ?_))))
  have hS1 := keep S _ outW hS
  refine wpAny_bind (wpAny_pure (wpAny_bind (wpAny_updateSeq hS1 rfl ?_)))
  rw [nm]
  refine wpAny_pure ⟨plainId_quiet F.plain_max_loop _, loop_kw W cmp out (n - 1) 0 (by omega) _ v (W.frame _ _ _ st1 fun b hb o e => ?_) pv ⟨_, Heap.get?_update_self _ hS1 rfl⟩ fun v' h2 t2 pv' keep2 => ?_⟩
  · exact (Heap.get?_update_other _ _ (fun z : S = b => out (by rw [z]; exact hb))).trans e
  · exact fin v' h2 t2 pv' fun b o nb ns e => keep2 b o nb ns ((Heap.get?_update_other _ _ (Ne.symm ns)).trans (keep b o nb e))
/-- max.loop of nothing gives the default -/
theorem loop_none (W : Walks prog w A.in1 I fp wr 0 P St) (out : S ∉ fp) {s : Shared} (st : St 0 s.heap) (kS : keptAt s.heap S #[]) {d : Value}
    (fin : ∀ h' tk, (∀ b o, b ∉ wr → b ≠ S → s.heap.get? b = some o → h'.get? b = some o) → R (.ok (.ret d)) { s with heap := h', toks := tk }) :
    codeAny (model prog w) A (.builtin "max.loop" ⟨[.ref I, .none, .ref S], [("default", d)]⟩) R s := by
  have outW : S ∉ wr := fun z => out (W.sub _ z)
  obtain ⟨c, hS⟩ := kS
  refine codeAny_builtin F.entry_max_loop ?_ <;> rw [Around.under_plainId F.plain_max_loop _]
  show wpAny (model prog w) A.in1 (seqItems? (.ref S) >>= _) _ _ s
  refine wpAny_bind (wpAny_seqItems hS rfl (wpAny_bind (wpAny_tryCatch (W.done s _ _ st fun h1 t1 keep => ?_))))
  show wpAny (model prog w) A.in1 (rule _ >>= _) _ _ _
  refine wpAny_bind (wpAny_rule (wpAny_pure (fin h1 t1 fun b o nb _ e => keep b o nb e)))
end
section
variable {prog : Program} {w : World} {A : Around} {E : Value → Shared → Prop} {s : Shared} {l : Addr} {xs : Array (Int × Tok)}
/-- what a call of a built-in wants of its end -/
def EndOf (prog : Program) (w : World) (A : Around) (Q : Value → Shared → Prop) (E : Value → Shared → Prop) (fin : PySem.Fin) (s' : Shared) : Prop :=
  match fin with
  | .done f => (match (Except.ok f : Result) with | .ok (.ret v) => Q v s' | .ok _ => False | .error e => E e s')
  | .again c => c.quiet = true ∧ codeAny (model prog w) A c (fun r s2 => match r with | .ok (.ret v) => Q v s2 | .ok _ => False | .error e => E e s2) s'
theorem call_tree_kw {id : String} {b : Builtin} {args : List Value} {kw : List (Str × Value)} {Q : Value → Shared → Prop} (hk : builtinKind id = none) (hp : plainId id = true) (hb : entryFor table id = some b) (ha : argsOk id ⟨args, kw⟩)
    (hc : wpAny (model prog w) A.in1 (b ⟨args, kw⟩) (EndOf prog w A Q E) E s) : wpAny (model prog w) A (call (.builtin id) args kw) Q E s := by
  refine wpAny_call (codeAny_call_builtin hp hb ?_)
  simp only [checkBuiltinCall, hk]
  cases sg : Manifest.signature? id with
  | none => exact wpAny_pure hc
  | some g =>
    have e : Bind.checkArgs id g ⟨args, kw⟩ = pure () := by simpa only [argsOk, sg] using ha
    show wpAny _ _ (Bind.checkArgs id g ⟨args, kw⟩) _ _ s
    rw [e]
    exact wpAny_pure hc
theorem args_max_def (a d : Value) : argsOk "max" ⟨[a], [("default", d)]⟩ := by unfold argsOk; kernel_rfl
/-- max(l, default=d) of a list of ints -/
theorem max_def {Q : Value → Shared → Prop} {d : Value} (hh : A.handled = none) (hl : s.heap.IsList l (intItems xs))
    (h0 : xs.size = 0 → ∀ h' tk, (∀ b o, s.heap.get? b = some o → h'.get? b = some o) → Q d { s with heap := h', toks := tk })
    (h : ∀ v h' tk, 0 < xs.size → (intItems xs)[argBest (fun i j => decide (numAt xs i > numAt xs j)) (xs.size - 1)]? = some v → (∀ b o, s.heap.get? b = some o → h'.get? b = some o) → Q v { s with heap := h', toks := tk }) :
    wpAny (model prog w) A (call (.builtin "max") [.ref l] [("default", d)]) Q E s := by
  have nm : (toString "max" ++ toString ".loop" : String) = "max.loop" := by decide
  refine call_tree_kw F.kind_max F.plain_max F.entry_max (args_max_def _ _) ?_
  show wpAny (model prog w) A.in1 (Builtin.Builtins.bindParams "max" ["key", "default"] 0 ⟨[], [("default", d)]⟩ >>= _) _ _ s
  refine wpAny_bind (wpAny_of_eq (show Builtin.Builtins.bindParams "max" ["key", "default"] 0 ⟨[], [("default", d)]⟩ = pure [none, some d] from rfl) ?_)
  refine wpAny_bind (wpAny_pure (wpAny_bind (iter_intList hl fun s₂ e st hfp hlI => ?_)))
  subst e
  have W := Walks.list (prog := prog) (w := w) (A := A.in1) hh _ l hlI (intItems xs)
  refine wpAny_bind (wpAny_newObj_type ?_)
  rw [nm]
  have sf : (s.heap.push { cls := .type "list_iterator", data := .fields #[.ref l, .int 0 0] }).objs.size ∉ [s.heap.objs.size, l] := fun z => Nat.lt_irrefl _ (hfp _ z)
  refine wpAny_pure ⟨plainId_quiet F.plain_max_loop _, ?_⟩
  have push2 : ∀ (b : Addr) (o : Obj), (s.heap.push { cls := .type "list_iterator", data := .fields #[.ref l, .int 0 0] }).get? b = some o →
      ((s.heap.push { cls := .type "list_iterator", data := .fields #[.ref l, .int 0 0] }).push (seqObj "list" #[] 0)).get? b = some o := fun b o e => Heap.get?_push_of_some _ e
  have sz : (intItems xs).size = xs.size := by simp [intItems]
  have old : ∀ {h' : Heap}, (∀ b o, b ∉ [s.heap.objs.size] → b ≠ (s.heap.push { cls := .type "list_iterator", data := .fields #[.ref l, .int 0 0] }).objs.size →
      ((s.heap.push { cls := .type "list_iterator", data := .fields #[.ref l, .int 0 0] }).push (seqObj "list" #[] 0)).get? b = some o → h'.get? b = some o) → ∀ b o, s.heap.get? b = some o → h'.get? b = some o := fun k => old_kept fun b o nb e => k b o nb (Nat.ne_of_lt (Heap.lt_size e)) (push2 b o e)
  by_cases hz : xs.size = 0
  · have ez : (intItems xs).size = 0 := by rw [sz, hz]
    rw [ez] at W
    exact loop_none W sf (W.frame _ _ _ st fun b _ o e => push2 b o e) ⟨_, Heap.get?_push_size _ rfl⟩ fun h' tk keep => h0 hz h' tk (old keep)
  · refine loop_kw0 W (CmpOf.ints_gt (numAt xs) fun _ _ => intItems_at) sf (by omega) (W.frame _ _ _ st fun b _ o e => push2 b o e) ⟨_, Heap.get?_push_size _ rfl⟩ fun v h' tk pv keep => ?_
    rw [sz] at pv
    exact h v h' tk (by omega) pv (old keep)
end
/-! ### the rules by values -/
section
variable {X : Cx}
/-- max(xs, default=d) of a list of ints -/
def rMaxDef (K : PySem.W.Frag) : List V → List V → Hp → VK → Prop := fun vs zs H Q => ∃ (a : Addr) (ns : List Int) (d : V), vs = [.ref a] ∧ zs = [d] ∧ SqL K H a (ns.map V.int) ∧
  (ns = [] → Q d H) ∧ ∀ m, m ∈ ns → (∀ y ∈ ns, y ≤ m) → Q (.int m) H
theorem cr_maxDef (hc : X.calm = true) : CallRK X (.builtin "max") [Str.ofString "default"] (rMaxDef X.K) := by
  intro pins s σ H vs zs us ws Q I r rz h
  obtain ⟨a, ns, d, rfl, rfl, hs, q0, q⟩ := h
  obtain rfl := Vals.ref1 r
  obtain ⟨w1, rfl, rd⟩ := vals1 rz
  obtain ⟨its, rv, hl, _⟩ := I.list hs
  obtain ⟨xs, e⟩ := rv.ints.allInts.items
  have hn : numsOf (intItems xs).toList = ns := by
    rw [← e]
    exact rv.ints.numsOf
  rw [nums_intItems] at hn
  subst hn
  have hl2 := hl.isList
  rw [e] at hl2
  refine max_def (I.ok.hd hc) hl2 (fun z h' tk hk => ⟨d, H, I.kept hk, rd, q0 ?_⟩) fun v h' tk pos hv hk => ?_
  · have : xs.toList = [] := by
      apply List.eq_nil_of_length_eq_zero
      simpa using z
    rw [this]
    rfl
  · obtain ⟨t, rfl⟩ := intItems_at hv
    obtain ⟨h1, h2⟩ := argBest_gt (numAt xs) (xs.size - 1)
    refine ⟨.int _, H, I.kept hk, ⟨_, rfl⟩, q _ ?_ fun y hy => ?_⟩
    · rw [numAt_eq]
      exact PySem.getD_mem (by rw [List.length_map, Array.length_toList]; omega)
    · obtain ⟨j, hj, rfl⟩ := mem_getD hy
      rw [List.length_map, Array.length_toList] at hj
      rw [← numAt_eq]
      exact h2 j (by omega)

theorem idx_ahead : ∀ (l : List Int) (n : Int) (m : Nat) (h : m < l.length), m < l.idxOf n → l[m] ≠ n
  | x :: r, n, m, h, k => by
    rw [List.idxOf_cons] at k
    by_cases e : (x == n) = true
    · rw [e] at k
      simp at k
    · have e' : (x == n) = false := by simpa using e
      rw [e'] at k
      cases m with
      | zero => exact fun z => e (by show (x == n) = true; exact beq_iff_eq.mpr z)
      | succ m =>
        have k' : m < r.idxOf n := by simpa using k
        exact idx_ahead r n m (by simpa using h) k'
/-- t.index(y), flat items, the first place -/
def rIndexT (K : PySem.W.Frag) : V → List V → Hp → VK → Prop := fun x xs H Q => ∃ (a : Addr) (ns : List Int) (n : Int), x = .ref a ∧ xs = [.int n] ∧ SqT K H a (ns.map V.int) ∧ n ∈ ns ∧ Q (.int (ns.idxOf n : Nat)) H
theorem mt_indexT : MtR X "tuple.index" (rIndexT X.K) := by
  intro pins s σ H x xs v us Q I rx rs h
  obtain ⟨p, ns, n, rfl, rfl, hq, hm, q⟩ := h
  cases rx
  obtain ⟨u, rfl, t, rfl⟩ := vals1 rs
  obtain ⟨its, r, pl, hz⟩ := I.tuple hq
  obtain ⟨⟨cls, dd, dt, sl⟩, ho, hc, c, hd⟩ := pl
  simp only at hc hd
  subst hc
  subst hd
  have len : its.length = ns.length := by rw [← r.length, List.length_map]
  have hj : ns.idxOf n < its.toArray.size := by
    rw [List.size_toArray, len]
    exact List.idxOf_lt_length_iff.mpr hm
  have item : ∀ (m : Nat) (h1 : m < its.toArray.size) (h2 : m < ns.length), ∃ t', its.toArray[m] = Value.int ns[m] t' := fun m h1 h2 => by
    obtain ⟨w', e1, t', e2⟩ := r.get (i := m) (x := .int ns[m]) (by simp [h2])
    refine ⟨t', ?_⟩
    have e3 := (List.getElem?_eq_some_iff.mp e1).2
    rw [← e2, ← e3]
    simp
  have hf : (ns.map V.int).all flatV = true := by
    rw [List.all_map]
    exact List.all_eq_true.mpr fun _ _ => rfl
  refine call_meets PySem.F.slot_tuple_index ⟨_, ho, rfl⟩ PySem.F.entry_tuple_index (PySem.F.args_tuple_index_2 _ _) (TI.tuple_indexAt p its.toArray c dd sl (.int n t) (eqU (.int n)) (ns.idxOf n) hj ?_ ?_)
    ⟨ho, fun y hy => mem_eqAt (x := .int n) ⟨t, rfl⟩ rfl r hf y (by simpa using hy), ⟨.int (ns.idxOf n : Nat), H, I.tok _, ⟨_, rfl⟩, q⟩⟩
  · obtain ⟨t', e⟩ := item _ hj (List.idxOf_lt_length_iff.mpr hm)
    rw [e]
    show eqU (.int n) (Value.int _ t') = true
    rw [List.getElem_idxOf]
    show (n == n) = true
    exact beq_self_eq_true n
  · intro m h1 h2
    have h3 : m < ns.length := by
      rw [← len, ← List.size_toArray]
      exact h1
    obtain ⟨t', e⟩ := item m h1 h3
    rw [e]
    have k := idx_ahead ns n m h3 h2
    show (ns[m] == n) = false
    exact beq_eq_false_iff_ne.mpr k
/-- f(k = v, ..): keywords alone -/
theorem pe_callK0 {CX : CXT} {k : Nat} {f : Addr} {fd : FuncData} {ps ks : List Str} {sp : Sp} {E : XK} {x : Str} {p pos : Pos} {kws : List Keyword} {tk : TA} {g : List Value → List Value → List Value} {gV : List V → List V → List V}
    (F : FnOk X.prog X.w X.K X.mg X.base CX k f fd ps sp) (hr : Room k X.A) (hg : Gl X x) (hm : X.mg x = some (.ref f)) (hk : PySem.W.keepIn X.K (.ref f) = true) (hb : KBinds X.K fd ps ks g gV) (hx : Passes CX X E) (hkw : PK X kws tk)
    (hall : (backToKw pos (keywordEach kws X.env)).all (·.1.isSome) = true := by rfl) (hks : (backToKw pos (keywordEach kws X.env)).filterMap (·.1) = ks := by rfl) (hdb : (x == ("__debug__" : Str)) = false := by decide)
    (hpl : ((backTo pos (starEach [] X.env)).any (·.1) || (backToKw pos (keywordEach kws X.env)).any (·.1.isNone)) = false := by rfl) : PE X (.Call (.Name x p) [] kws pos) (tCallK sp gV E tNil tk) := by
  refine ⟨fun pins s σ H Q I h => wpAny_Call_Name_kw (ld_glob I hg hm ?_ hdb)⟩
  refine PySem.W.callWith_KW0 (h₀ := X.base) I.ok.mod.kin hk hall (thn (hkw.run pos pins s σ H _ I h) fun ws s1 ⟨zs, H1, I1, rz, q1⟩ => ⟨I1.kIn, ?_⟩) hpl
  rw [hks]
  exact run_fnk F hr hb hx I1 .nil rz q1
/-- a method's call within a comprehension: the written part by its own name -/
theorem pe_bmK {K : PySem.W.Frag} {e : Expr} {T : String} {r : V → List V → Hp → VK → Prop} {to : TE} {t : TA} (hK : X.K = K) (h : PE X e (tBM X.K T r to t)) : PE X e (tBM K T r to t) := by
  subst hK
  exact h
/-! ### tuples without a dict, and their methods -/
/-- a tuple at a whose object is known to have no dict -/
def FzT (H : Hp) (a : Addr) (xs : List V) : Prop := ∃ o : Obj, H a = some (.frz o (.tup xs)) ∧ o.dict = none
theorem FzT.sq {K : PySem.W.Frag} {H : Hp} {a : Addr} {xs : List V} (h : FzT H a xs) : SqT K H a xs := by
  obtain ⟨o, h1, _⟩ := h
  exact .inl (.inr ⟨o, h1⟩)
/-- (a, b, ..), its object known -/
def tTupF (t : TA) : TE := fun σ H Q => t σ H fun xs H1 => xs.length ≤ sizeLine ∧ ∀ (p : Addr) (o : Obj), H1 p = none → o.dict = none → Q (.ref p) (upd H1 p (.frz o (.tup xs)))
theorem pe_tupF {es : List Expr} {t : TA} {k : Nat} {pos : Pos} (h : PA X es t) : PE X (.Tuple es k pos) (tTupF t) := by
  refine ⟨fun pins s σ H Q I hq => wpAny_Tuple_spliced (thn (h.run pos pins s σ H _ I hq) fun us s1 ⟨xs, H1, I1, r, z, q⟩ => ⟨by rw [← r.length]; exact z, ?_⟩)⟩
  refine ⟨.ref s1.heap.objs.size, _, I1.laid (t' := s1.toks) (fun b u e => Heap.get?_push_of_some _ e) (Nat.le_refl _) ?_, rfl, q _ { cls := .type "tuple", data := .seq us.toArray } (I1.hok.fresh (Nat.le_refl _)) rfl⟩
  exact ⟨Heap.get?_push_size _ rfl, z, us, r, _, Heap.get?_push_size _ rfl, rfl, _, rfl⟩
/-- tuple(l) of a list, its object known -/
theorem call_tupleF : CallR X (.type "tuple") (fun xs H Q => ∃ p ys, xs = [.ref p] ∧ SqL X.K H p ys ∧ ∀ (l : Addr) (o : Obj), H l = none → o.dict = none → Q (.ref l) (upd H l (.frz o (.tup ys)))) := by
  intro pins s σ H xs us Q I r h
  obtain ⟨p, ys, rfl, hq, q⟩ := h
  obtain ⟨u, rfl, rx⟩ := vals1 r
  cases rx
  obtain ⟨its, rv, pl, hz⟩ := I.list hq
  have len := rv.length
  refine call_tuple_list pl.isList (fun h1 kp => ?_) (by simp only [List.size_toArray] <;> omega)
  have I1 : Inv X pins σ H { s with heap := h1 } := I.kept (t' := s.toks) kp
  refine ⟨.ref h1.objs.size, _, I1.laid (o := .frz { cls := .type "tuple", data := .seq its.toArray } (.tup ys)) (t' := s.toks) (fun b o e => Heap.get?_push_of_some _ e) (Nat.le_refl _) ?_, rfl, q _ _ (I1.hok.fresh (Nat.le_refl _)) rfl⟩
  exact ⟨Heap.get?_push_size _ rfl, hz, its, rv, IsTup.new _ _⟩
/-- t.m(e, ..) of such a tuple -/
def tBMT (r : V → List V → Hp → VK → Prop) (to : TE) (t : TA) : TE := fun σ H Q => to σ H fun x H1 => (∃ a xs, x = .ref a ∧ FzT H1 a xs) ∧ t σ H1 fun vs H2 => r x vs H2 Q
theorem pe_bmT {r : V → List V → Hp → VK → Prop} {name : Str} {id : String} {o e : Expr} {es : List Expr} {to : TE} {t : TA} {apos cpos : Pos} (slot : Slot "tuple" name id) (hty : typeOf (.builtin id) = pure (.type "method_descriptor")) (hm : MtR X id r) (ho : PE X o to) (ha : PA X (e :: es) t)
    (hbase : attributeBase o name X.env (eval o X.env) = eval o X.env := by rfl)
    (hfew : ((backTo cpos (starEach (e :: es) X.env)).all (fun x => !x.1) && (backToKw cpos (keywordEach [] X.env)).all (fun x => x.1.isSome) && decide ((e :: es).length + ([] : List Keyword).length + (if ([] : List Keyword).isEmpty then 0 else 1) < 30)) = true := by rfl)
    (hline : (apos.endLine == cpos.line) = true := by rfl) (hs : starEach (e :: es) X.env = (false, eval e X.env) :: starEach es X.env := by rfl) (hplain : (backTo cpos (starEach es X.env)).any (·.1) = false := by rfl) :
    PE X (.Call (.Attribute o name apos) (e :: es) [] cpos) (tBMT r to t) := by
  refine ⟨fun pins s σ H Q I h => wpAny_Call_method_late hbase hfew hline rfl (thn (ho.run pins s σ H _ I h) fun v s1 ⟨x, H1, I1, r1, ⟨a, xs, ex, ob, e1, e2⟩, q1⟩ => ?_)⟩
  subst ex
  obtain rfl : v = Value.ref a := r1
  obtain ⟨g1, _, its, rv, ob', g2, g3, _⟩ := I1.hok a _ e1
  obtain rfl : ob = ob' := Option.some.inj (g1.symm.trans g2)
  have hA := ha.run cpos pins s1 σ H1 _ I1 q1
  refine ⟨"tuple", id, PySem.F.plainAttrs_tuple, slot, hty, ⟨ob, g1, g3⟩, fun b eb => ?_, ?_⟩
  · cases eb
    exact ⟨ob, g1, e2⟩
  · rw [hs] at hA ⊢
    refine Calls.callWith_builtin ?_ (Calls.evalArgs_plain (thn hA fun us s2 ⟨vs, H2, I2, r2, q2⟩ => hm pins s2 σ H2 (.ref a) vs _ us Q I2 rfl r2 q2))
    show (false || (backTo cpos (starEach es X.env)).any (·.1)) = false
    rw [hplain]
    rfl
/-- a power of a great number -/
def CPowW (i j : Int) : Prop := 0 ≤ j ∧ j ≤ 1000 ∧ i.natAbs < 2 ^ 1000
theorem op_powW : OpR X (binaryOp .Pow) (rI CPowW fun i j => .int (i ^ j.toNat)) := opI fun i j _ _ _ _ _ hc q => pow_int hc.1 (by
  obtain ⟨h1, h2, h3⟩ := hc
  have hb : Builtin.Int.intBits i ≤ 1001 := by
    unfold Builtin.Int.intBits
    split
    · omega
    · by_cases z : i.natAbs = 0
      · rw [z]
        decide
      · have := (Nat.log2_lt z).mpr h3
        omega
  have : (Builtin.Int.intBits i : Int) * j ≤ 1001 * 1000 := Int.mul_le_mul (by omega) h2 h1 (by omega)
  have e : (2 : Int) ^ 27 = 134217728 := by decide
  rw [e]
  omega) q
end
end GL

set_option Elab.async false
set_option linter.all false
set_option maxRecDepth 100000
set_option maxHeartbeats 4000000
/-! the law's own drawing: box, take, of -/
namespace M91
open PySem PySem.Spec PyProof.Rows L2 GL
def topS (i : Nat) : Stmt := PySem.Challenge.pw_sourceback_k91_edits_and_plans_written_a.main.body.getD i (.Pass ⟨0, 0, 0, 0⟩)
abbrev sIsWord : Stmt := topS 13
abbrev sIsName : Stmt := topS 14
abbrev sIsPart : Stmt := topS 15
abbrev sLitT : Stmt := topS 34
abbrev sLabT : Stmt := topS 35
abbrev sPathT : Stmt := topS 36
abbrev sPlaceT : Stmt := topS 37
abbrev sSpotT : Stmt := topS 38
abbrev sWorthT : Stmt := topS 39
abbrev sRowT : Stmt := topS 40
abbrev sRecT : Stmt := topS 41
abbrev sStepT : Stmt := topS 42
abbrev sDeedT : Stmt := topS 43
abbrev sShowE : Stmt := topS 44
abbrev sShowP : Stmt := topS 45
abbrev sPieces : Stmt := topS 46
abbrev sParts : Stmt := topS 48
abbrev sReadE : Stmt := topS 49
abbrev sKey : Stmt := topS 50
abbrev sReadP : Stmt := topS 51
abbrev sBox : Stmt := topS 53
abbrev sTake : Stmt := topS 54
abbrev sOf : Stmt := topS 55
abbrev sLLit : Stmt := topS 56
abbrev sLPath : Stmt := topS 57
abbrev sLPlace : Stmt := topS 58
abbrev sLWorth : Stmt := topS 59
abbrev sLRec : Stmt := topS 60
abbrev sLStep : Stmt := topS 61
abbrev sLEdit : Stmt := topS 62
abbrev sLDeed : Stmt := topS 63
abbrev sLPlan : Stmt := topS 64
abbrev sName : Stmt := topS 65
abbrev sLabels : Stmt := topS 66
abbrev sLiteral : Stmt := topS 67
abbrev sRecord : Stmt := topS 68
abbrev sEdit : Stmt := topS 69
abbrev sDeeds : Stmt := topS 70
abbrev sRight : Stmt := topS 71
abbrev sLaw : Stmt := topS 72
abbrev rInit : Stmt := inClass (topS 47) 0
abbrev rRefuse : Stmt := inClass (topS 47) 1
abbrev rNext : Stmt := inClass (topS 47) 2
abbrev rNum : Stmt := inClass (topS 47) 3
abbrev rSer : Stmt := inClass (topS 47) 4
abbrev rLit : Stmt := inClass (topS 47) 5
abbrev rPath : Stmt := inClass (topS 47) 6
abbrev rPlace : Stmt := inClass (topS 47) 7
abbrev rSpot : Stmt := inClass (topS 47) 8
abbrev rWorth : Stmt := inClass (topS 47) 9
abbrev rWhole : Stmt := inClass (topS 47) 10
abbrev rRec : Stmt := inClass (topS 47) 11
abbrev rStep : Stmt := inClass (topS 47) 12
abbrev rDeed : Stmt := inClass (topS 47) 13
abbrev rAll : Stmt := inClass (topS 47) 14
theorem scB : FnScope ["_law_script", "_law_k", "_law_digits", "_law_own"] ["_law_script", "_law_k"] (defScope sBox) := ⟨rfl, rfl, rfl, by decide +kernel, rfl, by decide +kernel, by decide +kernel⟩
theorem scT : FnScope ["_law_box_here", "_law_many", "_law_digit", "_law_mixed"] ["_law_box_here", "_law_many"] (defScope sTake) := ⟨rfl, rfl, rfl, by decide +kernel, rfl, by decide +kernel, by decide +kernel⟩
theorem scO : FnScope ["_law_box_here", "_law_some"] ["_law_box_here", "_law_some"] (defScope sOf) := ⟨rfl, rfl, rfl, by decide +kernel, rfl, by decide +kernel, by decide +kernel⟩

/-- the words that are no names -/
def kw : List Str := ["\x69mport", "template", "list", "document", "let", "new", "for", "in", "where", "give", "if", "then", "else"]
def kwV : List V := kw.map V.str
structure Bl (K : PySem.W.Frag) (mg : Str → Option Value) : Prop where
  len : mg "len" = none
  abs : mg "abs" = none
  int : mg "int" = none
  max : mg "max" = none
  min : mg "min" = none
  range : mg "range" = none
  list : mg "list" = none
  repr : mg "repr" = none
  all : mg "all" = none
  isinstance : mg "isinstance" = none
  str : mg "str" = none
  tuple : mg "tuple" = none
  sorted : mg "sorted" = none
  set : mg "set" = none
  ord : mg "ord" = none
  cletters : ∃ t, mg "LETTERS" = some (.str "abcdefghijklmnopqrstuvwxyz" t)
  cdigits : ∃ t, mg "DIGITS" = some (.str "0123456789" t)
  cquote : ∃ t, mg "QUOTE" = some (.str "\"" t)
  cbackslash : ∃ t, mg "BACKSLASH" = some (.str "\\" t)
  cblank : ∃ t, mg "BLANK" = some (.str " " t)
  cbetween : ∃ t, mg "BETWEEN" = some (.str "; " t)
  cnothing : ∃ t, mg "NOTHING" = some (.str "-" t)
  cslash : ∃ t, mg "SLASH" = some (.str "/" t)
  cdot : ∃ t, mg "DOT" = some (.str "." t)
  cnumbermark : ∃ t, mg "NUMBER_MARK" = some (.str "#" t)
  cevery : ∃ t, mg "EVERY" = some (.str "*" t)
  cset : ∃ t, mg "SET" = some (.str "set" t)
  cgone : ∃ t, mg "GONE" = some (.str "gone" t)
  corder : ∃ t, mg "ORDER" = some (.str "order" t)
  ctake : ∃ t, mg "TAKE" = some (.str "take" t)
  cput : ∃ t, mg "PUT" = some (.str "put" t)
  ccarry : ∃ t, mg "CARRY" = some (.str "carry" t)
  cmostletters : ∃ t, mg "MOST_LETTERS" = some (.int 12 t)
  cmostinstring : ∃ t, mg "MOST_IN_STRING" = some (.int 60 t)
  cleastcode : ∃ t, mg "LEAST_CODE" = some (.int 32 t)
  cmostcode : ∃ t, mg "MOST_CODE" = some (.int 126 t)
  cmostdigits : ∃ t, mg "MOST_DIGITS" = some (.int 1000 t)
  cmostdeep : ∃ t, mg "MOST_DEEP" = some (.int 40 t)
  cplaceparts : ∃ t, mg "PLACE_PARTS" = some (.int 2 t)
  cspotparts : ∃ t, mg "SPOT_PARTS" = some (.int 3 t)
  ckeywords : ∃ a, mg "KEYWORDS" = some (.ref a) ∧ ∀ H, SqT K H a kwV
/-- a box at b, of which at most n mixed numbers were drawn -/
def Box (H : Hp) (b : Addr) (n : Nat) : Prop := ∃ o m c : Int, H b = some (.lst [.int o, .int m, .int c]) ∧ 0 ≤ o ∧ 0 ≤ m ∧ m < 2 ^ 62 ∧ 0 ≤ c ∧ c ≤ n
theorem Box.mono {H : Hp} {b : Addr} {n k : Nat} (h : Box H b n) (e : n ≤ k) : Box H b k := by
  obtain ⟨o, m, c, h1, h2, h3, h4, h5, h6⟩ := h
  exact ⟨o, m, c, h1, h2, h3, h4, h5, by omega⟩

/-- an expression in two ways, its value by what is known of it -/
theorem if_any {t : TT} {a b : TE} {σ : L2.St} {H : Hp} {Q : VK} {R : V → Prop} (h : ∀ Q' : VK, (∀ v, R v → Q' v H) → tIf t a b σ H Q') (q : ∀ v, R v → Q v H) : tIf t a b σ H Q := h Q q
section
variable {P : Program} {w : World} {K : PySem.W.Frag} {mg : Str → Option Value} {base : Heap}

def spTake : Sp := fun vs H Q _ => ∃ (b : Addr) (many : Int) (n : Nat), vs = [.ref b, .int many] ∧ Box H b n ∧ n < 1000000 ∧ 0 < many ∧ many < 1000000 ∧
  ∀ (r : Int) (u : HO), 0 ≤ r → r < many → Box (upd H b u) b (n + 1) → Q (.int r) (upd H b u)
theorem ok_take {f : Addr} {fd : FuncData} {k : Nat} (F : Fun K "_law_take" "_law_take" sTake f fd) : FnOk P w K mg base CX0 (k + 1) f fd ["_law_box_here", "_law_many"] spTake := by
  refine F.ok scT (fun vs H Q E h => ?_) (fun cdv A outer s H vs Q E hr h => ?_)
  · obtain ⟨b, many, n, rfl, _⟩ := h
    rfl
  · obtain ⟨b, many, n, rfl, ⟨o, m, c, hb, ho, hm, hm2, hc, hcn⟩, hn, h0, h1, q⟩ := h
    refine ⟨_, (pss_cons (ps_if (pt_cmpR op_gt (pe_ix ix_list (pv 0) pe_int (fun _ _ => rfl)) pe_int (nomark _))
        (pss_cons (ps_set (i := 2) scT.nd rfl (Or.inl rfl) (pe_op op_mod (pe_ix ix_list (pv 0) pe_int (fun _ _ => rfl)) (pv 1)))
        (pss_cons (ps_asg (pe_op op_fdivW (pe_ix ix_list (pv 0) pe_int (fun _ _ => rfl)) (pv 1)) (pg_sub (pv 0) pe_int set_list))
        (pss_one (ps_ret (pv 2)))))
        pss_nil)
      (pss_cons (ps_asg (pe_op op_add (pe_ix ix_list (pv 0) pe_int (fun _ _ => rfl)) pe_int) (pg_sub (pv 0) pe_int set_list))
      (pss_cons (ps_set (i := 3) scT.nd rfl (Or.inl rfl) (pe_op op_mod (pe_op op_mul (pe_op op_add (pe_op op_add (pe_ix ix_list (pv 0) pe_int (fun _ _ => rfl)) (pe_op op_mul (pe_op op_mul pe_int (pe_ix ix_list (pv 0) pe_int (fun _ _ => rfl))) (pe_ix ix_list (pv 0) pe_int (fun _ _ => rfl)))) pe_int) pe_int) pe_int))
      (pss_cons (ps_set (i := 3) scT.nd rfl (Or.inl rfl) (pe_op op_mod (pe_op op_mul (pv 3) (pe_op op_add (pe_op op_mod (pv 3) pe_int) (pe_op op_mul pe_int (pe_ix ix_list (pv 0) pe_int (fun _ _ => rfl))))) pe_int))
      (pss_one (ps_ret (pe_op op_mod (pe_op op_add (pe_op op_fdiv (pv 3) pe_int) (pe_op op_fdiv (pv 3) pe_int)) (pv 1)))))))), ?_⟩
    have hL : SqL K H b [.int o, .int m, .int c] := SqL.of hb
    refine ⟨.ref b, rfl, b, _, 0, .int o, rfl, rfl, hL, rfl, o, 0, rfl, rfl, _, rfl, ite2 (fun e => ?_) (fun e => ?_)⟩
    · have e : 0 < o := of_decide_eq_true e
      refine ⟨.ref b, rfl, b, _, 0, .int o, rfl, rfl, hL, rfl, .int many, rfl, o, many, rfl, rfl, h0, ?_⟩
      refine ⟨.ref b, rfl, b, _, 0, .int o, rfl, rfl, hL, rfl, .int many, rfl, o, many, rfl, rfl, wide_div (b := 20) h0 (by omega) (by decide) (by decide), ?_⟩
      refine ⟨.ref b, rfl, b, _, 0, 0, rfl, rfl, hb, rfl, ?_⟩
      refine ⟨.int (o % many), rfl, ?_⟩
      refine q (o % many) _ (Int.emod_nonneg _ (by omega)) (Int.emod_lt_of_pos _ h0) ⟨o / many, m, c, upd_same, Int.ediv_nonneg ho (by omega), hm, hm2, hc, by omega⟩
    · refine ⟨.ref b, rfl, b, _, 2, .int c, rfl, rfl, hL, rfl, c, 1, rfl, rfl, ?_⟩
      refine ⟨.ref b, rfl, b, _, 2, 2, rfl, rfl, hb, rfl, ?_⟩
      have hb2 : (upd H b (.lst [.int o, .int m, .int (c + 1)])) b = some (.lst [.int o, .int m, .int (c + 1)]) := upd_same
      have hL2 : SqL K (upd H b (.lst [.int o, .int m, .int (c + 1)])) b [.int o, .int m, .int (c + 1)] := SqL.of hb2
      refine ⟨.ref b, rfl, b, _, 1, .int m, rfl, rfl, hL2, rfl, .ref b, rfl, b, _, 2, .int (c + 1), rfl, rfl, hL2, rfl, 65551, c + 1, rfl, rfl, .inl ⟨by decide, by decide⟩, .ref b, rfl, b, _, 2, .int (c + 1), rfl, rfl, hL2, rfl,
        65551 * (c + 1), c + 1, rfl, rfl, .inr ⟨by omega, by omega⟩, m, 65551 * (c + 1) * (c + 1), rfl, rfl, _, 29, rfl, rfl, _, 48281, rfl, rfl, .inr ⟨by decide, by decide⟩, _, 2305843009213693921, rfl, rfl, by show (0 : Int) < _; decide, ?_⟩
      dsimp only
      generalize hx : (m + 65551 * (c + 1) * (c + 1) + 29) * 48281 % 2305843009213693921 = x
      have x0 : 0 ≤ x := by rw [← hx]; exact Int.emod_nonneg _ (by decide)
      have x1 : x < 2305843009213693921 := by rw [← hx]; exact Int.emod_lt_of_pos _ (by decide)
      refine ⟨.int x, rfl, .int x, rfl, x, 1000039, rfl, rfl, by show (0 : Int) < _; decide, .ref b, rfl, b, _, 2, .int (c + 1), rfl, rfl, hL2, rfl, 99989, c + 1, rfl, rfl, .inl ⟨by decide, by decide⟩, _, _, rfl, rfl, x, _, rfl, rfl, .inl ⟨by omega, by omega⟩,
        _, 2305843009213693907, rfl, rfl, by show (0 : Int) < _; decide, ?_⟩
      dsimp only
      generalize hy : x * (x % 1000039 + 99989 * (c + 1)) % 2305843009213693907 = y
      have y0 : 0 ≤ y := by rw [← hy]; exact Int.emod_nonneg _ (by decide)
      refine ⟨.int y, rfl, y, 109, rfl, rfl, ⟨by decide, by decide⟩, .int y, rfl, y, 1000081, rfl, rfl, ⟨by decide, by decide⟩, _, _, rfl, rfl, .int many, rfl, _, many, rfl, rfl, h0, ?_⟩
      exact q _ _ (Int.emod_nonneg _ (by omega)) (Int.emod_lt_of_pos _ h0) ⟨o, m, c + 1, hb2, ho, hm, hm2, by omega, by omega⟩

def spBox (K : PySem.W.Frag) : Sp := fun vs H Q _ => ∃ (a : Addr) (ns : List Int) (k : Nat), vs = [.ref a, .int k] ∧ SqL K H a (ns.map V.int) ∧ k < 1000 ∧
  ∀ (p : Addr) (u : HO), H p = none → Box (upd H p u) p 0 → Q (.ref p) (upd H p u)
theorem ok_box {f : Addr} {fd : FuncData} {k : Nat} (F : Fun K "_law_box" "_law_box" sBox f fd) (T : Bl K mg) : FnOk P w K mg base CX0 (k + 1) f fd ["_law_script", "_law_k"] (spBox K) := by
  refine F.ok scB (fun vs H Q E h => ?_) (fun cdv A outer s H vs Q E hr h => ?_)
  · obtain ⟨a, ns, k, rfl, _⟩ := h
    rfl
  · obtain ⟨a, ns, k, rfl, hS, hk, q⟩ := h
    refine ⟨_, (pss_cons (ps_set (i := 2) scB.nd rfl (Or.inl rfl) (pe_ifExp (pt_cmpR op_lt (pv 1) (pe_callB call_len_seq (by rfl) T.len (by decide +kernel) (pa_cons (pv 0) pa_nil)) (nomark _)) (pe_ix ix_list (pv 0) (pv 1) (fun _ _ => rfl)) (pe_op op_add (pe_op op_mul pe_int (pv 1)) pe_int)))
      (pss_cons (ps_set (i := 3) scB.nd rfl (Or.inl rfl) (pe_op op_mul (pe_op op_mod (pe_callB call_abs (by rfl) T.abs (by decide +kernel) (pa_cons (pv 2) pa_nil)) (pe_op op_powW (pe_op op_pow pe_int pe_int) pe_int)) (pe_callTy call_int1 (by rfl) T.int (by decide +kernel) (pa_cons (pe_cmpR op_ge (pe_callB call_abs (by rfl) T.abs (by decide +kernel) (pa_cons (pv 2) pa_nil)) (pe_op op_pow pe_int pe_int) (nomark _)) pa_nil))))
      (pss_one (ps_ret (pe_lst (pa_cons (pv 3) (pa_cons (pe_op op_mod (pe_op op_add (pe_op op_add (pe_op op_mul (pe_op op_mod (pv 2) pe_int) pe_int) (pe_op op_mul (pe_op op_mul pe_int (pv 1)) (pv 1))) pe_int) pe_int) (pa_cons pe_int pa_nil)))))))), ?_⟩
    refine if_any (R := fun v => ∃ d : Int, v = .int d) (fun Q' q' => ?_) (fun v hv => ?_)
    · refine ⟨.int k, rfl, .ref a, rfl, a, _, rfl, .inl hS, (k : Int), _, rfl, rfl, _, rfl, ite2 (fun e => ?_) (fun e => ?_)⟩
      · have e : (k : Int) < ((ns.map V.int).length : Int) := of_decide_eq_true e
        have hl : k < ns.length := by
          rw [List.length_map] at e
          omega
        exact ⟨.ref a, rfl, .int k, rfl, a, _, (k : Int), .int ns[k], rfl, rfl, hS, atI_nat (by simp [hl]), q' _ ⟨_, rfl⟩⟩
      · exact ⟨.int k, rfl, 37, (k : Int), rfl, rfl, .inl ⟨by decide, by decide⟩, 37 * (k : Int), 5, rfl, rfl, q' _ ⟨_, rfl⟩⟩
    · obtain ⟨d, rfl⟩ := hv
      refine ⟨.int d, rfl, d, rfl, 10, 60, rfl, rfl, ⟨by decide, by decide, by decide⟩, 10 ^ 60, 5, rfl, rfl, ⟨by decide, by decide, by decide +kernel⟩, _, (10 ^ 60) ^ 5, rfl, rfl, by show (0 : Int) < _; decide +kernel, .int d, rfl, d, rfl, 10, 18, rfl, rfl, ⟨by decide, by decide, by decide⟩, _, 10 ^ 18, rfl, rfl, .inr ⟨_, rfl, ?_⟩⟩
      generalize (if d < 0 then -d else d) = e
      have hb : ∀ k : Bool, CMul (e % (10 ^ 60) ^ 5) (if k = true then 1 else 0) := fun k => .inr (by cases k <;> exact ⟨by decide, by decide⟩)
      refine ⟨_, _, rfl, rfl, hb _, ?_⟩
      dsimp only
      have ho : ∀ k : Bool, 0 ≤ e % (10 ^ 60) ^ 5 * (if k = true then 1 else 0) := fun k => Int.mul_nonneg (Int.emod_nonneg _ (by decide +kernel)) (by cases k <;> decide)
      have h2 := ho (decide (10 ^ 18 ≤ e))
      generalize (e % (10 ^ 60) ^ 5 * (if decide (10 ^ 18 ≤ e) = true then 1 else 0)) = o at h2
      refine ⟨.int o, rfl, .int d, rfl, d, 2305843009213693951, rfl, rfl, by show (0 : Int) < _; decide, _, 70079, rfl, rfl, .inr ⟨by decide, by decide⟩, .int k, rfl, 4799, (k : Int), rfl, rfl, .inl ⟨by decide, by decide⟩, .int k, rfl, _, (k : Int), rfl, rfl, .inr ⟨by omega, by omega⟩,
        _, _, rfl, rfl, _, 71, rfl, rfl, _, 2305843009213693921, rfl, rfl, by show (0 : Int) < _; decide, by show 3 ≤ sizeLine; decide, fun p hp => ?_⟩
      dsimp only
      exact q p _ hp ⟨o, _, 0, upd_same, h2, Int.emod_nonneg _ (by decide), Int.lt_trans (Int.emod_lt_of_pos _ (by decide)) (by decide), by decide, by decide⟩

def spOf : Sp := fun vs H Q _ => ∃ (b l : Addr) (xs : List V) (n : Nat), vs = [.ref b, .ref l] ∧ H l = some (.lst xs) ∧ l ≠ b ∧ Box H b n ∧ n < 1000000 ∧ 0 < xs.length ∧ xs.length < 1000000 ∧
  ∀ (x : V) (u : HO), x ∈ xs → Box (upd H b u) b (n + 1) → Q x (upd H b u)
theorem ok_of {f : Addr} {fd : FuncData} {k : Nat} (F : Fun K "_law_of" "_law_of" sOf f fd) (T : Bl K mg) (d_take : DnG P w K mg base "_law_take" 1 ["_law_box_here", "_law_many"] spTake) : FnG P w K mg base CX0 (k + 2) f fd ["_law_box_here", "_law_some"] spOf := by
  refine okG0 F scO (fun vs H Q E h => ?_) (fun cdv A outer s H vs Q E hr hG h => ?_)
  · obtain ⟨b, l, xs, n, rfl, _⟩ := h
    rfl
  · obtain ⟨b, l, xs, n, rfl, hl, ne, hB, hn, h0, h1, q⟩ := h
    refine ⟨_, (pss_one (ps_ret (pe_ix ix_list (pv 1) (pe_callG d_take.ok (hr.mono (Nat.le_add_left 1 k)) hG (by rfl) d_take.g d_take.kp d_take.b .nil pass0 (pa_cons (pv 0) (pa_cons (pe_callB call_len_seq (by rfl) T.len (by decide +kernel) (pa_cons (pv 1) pa_nil)) pa_nil))) (fun _ _ => rfl)))), ?_⟩
    refine ⟨.ref l, rfl, .ref b, rfl, .ref l, rfl, l, xs, rfl, .inl (SqL.of hl), b, xs.length, n, rfl, hB, hn, by omega, by omega, fun r u r0 r1 hB2 => ?_⟩
    obtain ⟨j, rfl⟩ : ∃ j : Nat, r = j := ⟨r.toNat, by omega⟩
    have hj : j < xs.length := by omega
    exact ⟨l, xs, j, xs[j], rfl, rfl, SqL.of (by rw [upd_ne ne]; exact hl), atI_nat (List.getElem?_eq_getElem hj), q _ u (List.getElem_mem hj) hB2⟩
end
/-- all but b is as it was -/
def Off (b : Addr) (H H' : Hp) : Prop := ∀ a o, a ≠ b → H a = some o → H' a = some o
theorem Off.refl (b : Addr) (H : Hp) : Off b H H := fun _ _ _ h => h
theorem Off.trans {b : Addr} {H H1 H2 : Hp} (x : Off b H H1) (y : Off b H1 H2) : Off b H H2 := fun a o n h => y a o n (x a o n h)
theorem Off.box {b : Addr} {H : Hp} {u : HO} : Off b H (upd H b u) := fun a o n h => by
  rw [upd_ne n]
  exact h
theorem Off.new {b p : Addr} {H : Hp} {u : HO} (hp : H p = none) : Off b H (upd H p u) := fun a o _ h => by
  rw [upd_ne (ne_of_none h hp)]
  exact h
/-- what H did not know may change -/
theorem Off.put {b p : Addr} {H H' : Hp} {u : HO} (x : Off b H H') (hp : H p = none) : Off b H (upd H' p u) := fun a o n h => by
  rw [upd_ne (ne_of_none h hp)]
  exact x a o n h
theorem Box.new {H : Hp} {b p : Addr} {n : Nat} {u : HO} (h : Box H b n) (ne : p ≠ b) : Box (upd H p u) b n := by
  obtain ⟨o, m, c, h1, h2⟩ := h
  exact ⟨o, m, c, by rw [upd_ne ne.symm]; exact h1, h2⟩
theorem Box.ne {H : Hp} {b p : Addr} {n : Nat} (h : Box H b n) (hp : H p = none) : p ≠ b := fun e => by
  obtain ⟨o, m, c, h1, h2⟩ := h
  rw [← e, hp] at h1
  cases h1
/-! ### lists of ints as data -/
abbrev iVs (ns : List Int) : List V := ns.map V.int
theorem erase_map : ∀ (ns : List Int) (j : Nat), (iVs ns).eraseIdx j = iVs (ns.eraseIdx j)
  | [], _ => rfl
  | _ :: _, 0 => rfl
  | n :: r, j + 1 => by
    show V.int n :: (iVs r).eraseIdx j = V.int n :: iVs (r.eraseIdx j)
    rw [erase_map r j]
theorem erase_perm : ∀ (ns : List Int) (j : Nat) (h : j < ns.length), (ns[j] :: ns.eraseIdx j).Perm ns
  | n :: r, 0, _ => List.Perm.refl _
  | n :: r, j + 1, h => by
    have hj : j < r.length := by simpa using h
    have ih := erase_perm r j hj
    exact (List.Perm.swap n r[j] _).trans (ih.cons n)
theorem dpI (K : PySem.W.Frag) (H : Hp) : ∀ ns : List Int, DpAll K H (iVs ns) (ns.map PyData.int)
  | [] => .nil
  | n :: r => .cons (.int n) (dpI K H r)
theorem layI : ∀ ns : List Int, PyData.canLayAll0 (ns.map PyData.int) = true
  | [] => rfl
  | n :: r => by
    rw [List.map_cons, PyData.canLayAll0, layI r]
    rfl
theorem depI : ∀ ns : List Int, PyData.depthAll (ns.map PyData.int) ≤ 1
  | [] => by decide
  | n :: r => by
    have := depI r
    rw [List.map_cons, PyData.depthAll]
    simp [PyData.depth]
    omega
theorem shI (ns : List Int) : SeqAt.shaped (.list (ns.map PyData.int)) = true := by
  unfold SeqAt.shaped
  have h1 : PyData.canLay0 (.list (ns.map PyData.int)) = true := layI ns
  have h2 := depI ns
  rw [h1]
  simp [PyData.depth]
  omega
theorem eqI : ∀ ns ms : List Int, PyData.eqvAll (ns.map PyData.int) (ms.map PyData.int) = decide (ns = ms)
  | [], [] => rfl
  | [], _ :: _ => rfl
  | _ :: _, [] => rfl
  | n :: r, m :: t => by
    rw [List.map_cons, List.map_cons, PyData.eqvAll, eqI r t]
    by_cases e : n = m
    · subst e
      simp [PyData.eqv]
    · have : ¬ (n :: r = m :: t) := fun z => e (List.cons.inj z).1
      simp [PyData.eqv, e]
theorem eqL (ns ms : List Int) : PyData.eqv (.list (ns.map PyData.int)) (.list (ms.map PyData.int)) = decide (ns = ms) := eqI ns ms

end M91

set_option Elab.async false
set_option linter.all false
set_option maxRecDepth 100000
set_option maxHeartbeats 4000000
/-! what never changes: tuples of flat things; the forms of edits and plans, and their texts -/
namespace M91
open PySem PySem.Spec PyProof.Rows L2 GL
mutual
inductive TV (K : PySem.W.Frag) (H : Hp) : V → PyData → Prop
  | non : TV K H .non .none
  | bl (b : Bool) : TV K H (.bl b) (.bool b)
  | int (i : Int) : TV K H (.int i) (.int i)
  | str (x : Str) : TV K H (.str x) (.str x)
  | tup {a : Addr} {xs : List V} {ds : List PyData} : SqT K H a xs → TVs K H xs ds → TV K H (.ref a) (.tuple ds)
inductive TVs (K : PySem.W.Frag) (H : Hp) : List V → List PyData → Prop
  | nil : TVs K H [] []
  | cons {v : V} {vs : List V} {d : PyData} {ds : List PyData} : TV K H v d → TVs K H vs ds → TVs K H (v :: vs) (d :: ds)
end
/-- tuples stay -/
def TK (H H' : Hp) : Prop := ∀ a xs, (H a = some (.tup xs) → H' a = some (.tup xs)) ∧ ∀ o, H a = some (.frz o (.tup xs)) → H' a = some (.frz o (.tup xs))
theorem TK.refl (H : Hp) : TK H H := fun _ _ => ⟨id, fun _ => id⟩
theorem TK.trans {H H1 H2 : Hp} (x : TK H H1) (y : TK H1 H2) : TK H H2 := fun a xs => ⟨fun h => (y a xs).1 ((x a xs).1 h), fun o h => (y a xs).2 o ((x a xs).2 o h)⟩
theorem tk_same {H H' : Hp} (x : Same H H') : TK H H' := fun a xs => ⟨fun h => x _ _ h, fun _ h => x _ _ h⟩
/-- a change of what is no tuple -/
theorem tk_put {H H' : Hp} {p : Addr} {u : HO} (x : TK H H') (h : ∀ xs, H p ≠ some (.tup xs) ∧ ∀ o, H p ≠ some (.frz o (.tup xs))) : TK H (upd H' p u) := fun a xs => by
  refine ⟨fun e => ?_, fun o e => ?_⟩
  · have : a ≠ p := fun z => by
      rw [z] at e
      exact (h xs).1 e
    rw [upd_ne this]
    exact (x a xs).1 e
  · have : a ≠ p := fun z => by
      rw [z] at e
      exact (h xs).2 o e
    rw [upd_ne this]
    exact (x a xs).2 o e
theorem tk_new {H H' : Hp} {p : Addr} {u : HO} (x : TK H H') (h : H p = none) : TK H (upd H' p u) := tk_put x fun xs => ⟨fun e => (by rw [h] at e; cases e), fun o e => (by rw [h] at e; cases e)⟩
theorem tk_lst {H H' : Hp} {p : Addr} {ys : List V} {u : HO} (x : TK H H') (h : H p = some (.lst ys)) : TK H (upd H' p u) := tk_put x fun xs => ⟨fun e => (by rw [h] at e; cases e), fun o e => (by rw [h] at e; cases e)⟩
theorem SqT.tk {K : PySem.W.Frag} {H H' : Hp} {a : Addr} {xs : List V} (e : TK H H') (h : SqT K H a xs) : SqT K H' a xs := by
  rcases h with (h | ⟨o, h⟩) | h
  · exact .inl (.inl ((e a xs).1 h))
  · exact .inl (.inr ⟨o, (e a xs).2 o h⟩)
  · exact .inr h
mutual
theorem TV.tk {K : PySem.W.Frag} {H H' : Hp} (e : TK H H') : ∀ {v : V} {d : PyData}, TV K H v d → TV K H' v d
  | _, _, .non => .non
  | _, _, .bl b => .bl b
  | _, _, .int i => .int i
  | _, _, .str x => .str x
  | _, _, .tup h t => .tup (SqT.tk e h) (TVs.tk e t)
theorem TVs.tk {K : PySem.W.Frag} {H H' : Hp} (e : TK H H') : ∀ {v : List V} {d : List PyData}, TVs K H v d → TVs K H' v d
  | _, _, .nil => .nil
  | _, _, .cons a t => .cons (TV.tk e a) (TVs.tk e t)
end
mutual
theorem TV.dv {K : PySem.W.Frag} {H : Hp} : ∀ {v : V} {d : PyData}, TV K H v d → DV K H v d
  | _, _, .non => .non
  | _, _, .bl b => .bl b
  | _, _, .int i => .int i
  | _, _, .str x => .str x
  | _, _, .tup h t => .tup h (TVs.dv t)
theorem TVs.dv {K : PySem.W.Frag} {H : Hp} : ∀ {v : List V} {d : List PyData}, TVs K H v d → DVs K H v d
  | _, _, .nil => .nil
  | _, _, .cons a t => .cons (TV.dv a) (TVs.dv t)
end
mutual
theorem TV.dp {K : PySem.W.Frag} {H : Hp} : ∀ {v : V} {d : PyData}, TV K H v d → Dp K H v d
  | _, _, .non => .non
  | _, _, .bl b => .bl b
  | _, _, .int i => .int i
  | _, _, .str x => .str x
  | _, _, .tup h t => .tup h (TVs.dp t)
theorem TVs.dp {K : PySem.W.Frag} {H : Hp} : ∀ {v : List V} {d : List PyData}, TVs K H v d → DpAll K H v d
  | _, _, .nil => .nil
  | _, _, .cons a t => .cons (TV.dp a) (TVs.dp t)
end
section
variable {K : PySem.W.Frag} {H : Hp} {v : V} {vs : List V} {d : PyData} {ds : List PyData}
theorem TV.ofInt {i : Int} (h : TV K H v (.int i)) : v = .int i := by cases h; rfl
theorem TV.ofStr {x : Str} (h : TV K H v (.str x)) : v = .str x := by cases h; rfl
theorem TV.ofTup (h : TV K H v (.tuple ds)) : ∃ a xs, v = .ref a ∧ SqT K H a xs ∧ TVs K H xs ds := by
  cases h with
  | tup h t => exact ⟨_, _, rfl, h, t⟩
theorem TVs.ofNil (h : TVs K H vs []) : vs = [] := by cases h; rfl
theorem TVs.ofCons (h : TVs K H vs (d :: ds)) : ∃ v r, vs = v :: r ∧ TV K H v d ∧ TVs K H r ds := by
  cases h with
  | cons a t => exact ⟨_, _, rfl, a, t⟩
theorem TVs.of2 {d e : PyData} (h : TVs K H vs [d, e]) : ∃ x y, vs = [x, y] ∧ TV K H x d ∧ TV K H y e := by
  obtain ⟨x, r, rfl, hx, h⟩ := h.ofCons
  obtain ⟨y, r, rfl, hy, h⟩ := h.ofCons
  obtain rfl := h.ofNil
  exact ⟨x, y, rfl, hx, hy⟩
theorem TVs.of3 {d e f : PyData} (h : TVs K H vs [d, e, f]) : ∃ x y z, vs = [x, y, z] ∧ TV K H x d ∧ TV K H y e ∧ TV K H z f := by
  obtain ⟨x, r, rfl, hx, h⟩ := h.ofCons
  obtain ⟨y, z, rfl, hy, hz⟩ := h.of2
  exact ⟨x, y, z, rfl, hx, hy, hz⟩
theorem TVs.length : ∀ {vs : List V} {ds : List PyData}, TVs K H vs ds → vs.length = ds.length
  | _, _, .nil => rfl
  | _, _, .cons _ t => by
    rw [List.length_cons, List.length_cons, TVs.length t]
theorem TVs.get : ∀ {vs : List V} {ds : List PyData} {i : Nat} {v : V}, TVs K H vs ds → vs[i]? = some v → ∃ d, ds[i]? = some d ∧ TV K H v d
  | _, _, _, _, .nil, e => by simp at e
  | _, _, 0, _, .cons a _, e => by
    simp at e
    subst e
    exact ⟨_, rfl, a⟩
  | _, _, i + 1, _, .cons _ t, e => TVs.get (i := i) t (by simpa using e)
theorem TVs.app : ∀ {vs : List V} {ds : List PyData} {ws : List V} {es : List PyData}, TVs K H vs ds → TVs K H ws es → TVs K H (vs ++ ws) (ds ++ es)
  | _, _, _, _, .nil, h => h
  | _, _, _, _, .cons a t, h => .cons a (TVs.app t h)
/-- the class of what never changes -/
def tyD : PyData → String
  | .none => "NoneType"
  | .bool _ => "bool"
  | .int _ => "int"
  | .str _ => "str"
  | .list _ => "list"
  | .tuple _ => "tuple"
  | .dict _ => "dict"
theorem TV.ty (h : TV K H v d) : TyX K H v (.type (tyD d)) := by
  cases h with
  | non => exact .base .non
  | bl b => exact .base (.bl b)
  | int i => exact .base (.int i)
  | str x => exact .base (.str x)
  | tup h t =>
    rcases h with (h | ⟨o, h⟩) | ⟨o, _, _, h, c, _⟩
    · exact .base (.tup h)
    · exact .fTuple h
    · exact .kTuple h c
end
/-! ### x != () of a tuple, however deep -/
section
variable {X : Cx}
def rNe0 (K : PySem.W.Frag) : V → V → Hp → VK → Prop := fun x y H Q => ∃ a b xs, x = .ref a ∧ y = .ref b ∧ SqT K H a xs ∧ SqT K H b [] ∧ Q (.bl (!xs.isEmpty)) H
theorem op_ne0 (hu : X.A.units < cLine) : OpR X (compareOp .NotEq) (rNe0 X.K) := by
  intro pins s σ H x y v u Q I rx ry h
  obtain ⟨a, b, xs, rfl, rfl, h1, h2, q⟩ := h
  cases rx
  cases ry
  obtain ⟨its, r, pl, _⟩ := I.tuple h1
  obtain ⟨jts, r2, pl2, _⟩ := I.tuple h2
  cases r2
  have z := SeqAt.RcNeAt.tuples (A := X.A) (s := s) (e := fun _ => true) pl pl2 hu (fun j _ h => absurd h (by simp)) X.prog X.w X.xe (EP X pins σ Q)
  refine z ⟨.bl _, H, I, ?_, q⟩
  have l := r.length
  show Value.bool _ = Value.bool _
  congr 1
  cases xs with
  | nil =>
    cases r
    rfl
  | cons y ys =>
    cases r with
    | cons p t => simp
end
/-- an f-string, under a name -/
def tJoin (ts : List TE) : TE := fun σ H Q => tJs ts Str.empty σ H fun out H1 => Q (.str out) H1
theorem pe_joinedN {X : Cx} {v1 v2 : Expr} {rest : List Expr} {ts : List TE} {pos : Pos} (h : PJ X (v1 :: v2 :: rest) ts) : PE X (.JoinedStr (v1 :: v2 :: rest) pos) (tJoin ts) := pe_joined h
/-! ### the forms -/
abbrev nT (i : Int) : Str := ((toString i : String) : Str)
inductive Lab where
  | w (x : Str)
  | n (k : Nat)
def Lab.v : Lab → V
  | .w x => .str x
  | .n k => .int k
def Lab.d : Lab → PyData
  | .w x => .str x
  | .n k => .int k
def Lab.t : Lab → Str
  | .w x => x
  | .n k => "#" ++ nT k
inductive Lit where
  | s (x : Str)
  | i (n : Int)
def Lit.v : Lit → V
  | .s x => .str x
  | .i n => .int n
def Lit.d : Lit → PyData
  | .s x => .str x
  | .i n => .int n
def Lit.t : Lit → Str
  | .s x => "\"" ++ x ++ "\""
  | .i n => nT n
mutual
inductive Wo where
  | lit (l : Lit)
  | rc (r : Rc)
  | rw (t : Rw)
inductive Rc where
  | nil
  | cons (n : Str) (w : Wo) (r : Rc)
inductive Rw where
  | nil
  | cons (k : Nat) (r : Rc) (t : Rw)
end
mutual
def Wo.d : Wo → PyData
  | .lit l => l.d
  | .rc r => .tuple r.ds
  | .rw t => .tuple t.ds
def Rc.ds : Rc → List PyData
  | .nil => []
  | .cons n w r => .tuple [.str n, w.d] :: r.ds
def Rw.ds : Rw → List PyData
  | .nil => []
  | .cons k r t => .tuple [.int k, .tuple r.ds] :: t.ds
end
def lined (a : Str) (l : List Str) (b : Str) : Str := Txt.join " " (a :: (l ++ [b]))
mutual
def Wo.t : Wo → Str
  | .lit l => l.t
  | .rc r => lined "{" r.ts "}"
  | .rw t => lined "[" t.ts "]"
def Rc.ts : Rc → List Str
  | .nil => []
  | .cons n w r => (n ++ ": " ++ w.t) :: r.ts
def Rw.ts : Rw → List Str
  | .nil => []
  | .cons k r t => ("#" ++ nT k ++ " " ++ lined "{" r.ts "}") :: t.ts
end
def Rc.t (r : Rc) : Str := lined "{" r.ts "}"
mutual
/-- how long the text is at most -/
def Wo.m : Wo → Nat
  | .lit l => l.t.length
  | .rc r => 4 + r.m
  | .rw t => 4 + t.m
def Rc.m : Rc → Nat
  | .nil => 0
  | .cons n w r => n.length + 3 + w.m + r.m
def Rw.m : Rw → Nat
  | .nil => 0
  | .cons k r t => (nT k).length + 7 + r.m + t.m
end
mutual
/-- how deep -/
def Wo.h : Wo → Nat
  | .lit _ => 0
  | .rc r => r.h + 1
  | .rw t => t.h + 1
def Rc.h : Rc → Nat
  | .nil => 0
  | .cons _ w r => max w.h r.h
def Rw.h : Rw → Nat
  | .nil => 0
  | .cons _ r t => max r.h t.h
end
def Lit.ok : Lit → Prop
  | .s x => x.length ≤ 60
  | .i n => n.natAbs < 2 ^ 60
def Lab.ok : Lab → Prop
  | .w x => x.length ≤ 60
  | .n k => k < 2 ^ 60
mutual
def Wo.ok : Wo → Prop
  | .lit l => l.ok
  | .rc r => r ≠ .nil ∧ r.ok
  | .rw t => t.ok
def Rc.ok : Rc → Prop
  | .nil => True
  | .cons n w r => n.length ≤ 60 ∧ w.ok ∧ r.ok
def Rw.ok : Rw → Prop
  | .nil => True
  | .cons k r t => k < 2 ^ 60 ∧ r.ok ∧ t.ok
end
theorem len_app (a b : Str) : (a ++ b).length = a.length + b.length := strLen_append a b
theorem join_le (s : Str) (ys : List Str) : (Txt.join s ys).length ≤ (ys.map (·.length)).sum + ys.length * s.length := by
  show (PySem.Builtin.Str.glued s ys).length ≤ _
  rw [StrLaws.glued_eq_join]
  exact StrLaws.join_length_le s ys
def lenS (ys : List Str) : Nat := (ys.map (·.length)).sum + ys.length
theorem lenS_app (a b : List Str) : lenS (a ++ b) = lenS a + lenS b := by
  unfold lenS
  rw [List.map_append, List.sum_append, List.length_append]
  omega
theorem lenS_cons (a : Str) (b : List Str) : lenS (a :: b) = a.length + 1 + lenS b := by
  unfold lenS
  rw [List.map_cons, List.sum_cons, List.length_cons]
  omega
theorem join1_le (ys : List Str) : (Txt.join " " ys).length ≤ lenS ys := by
  have := join_le " " ys
  have e : (" " : Str).length = 1 := rfl
  rw [e, Nat.mul_one] at this
  exact this
theorem lined_le (a b : Str) (l : List Str) : (lined a l b).length ≤ a.length + b.length + 2 + lenS l := by
  have := join1_le (a :: (l ++ [b]))
  rw [lenS_cons, lenS_app] at this
  have e : lenS [b] = b.length + 1 := by
    rw [lenS_cons]
    rfl
  unfold lined
  omega
mutual
theorem Wo.len : ∀ w : Wo, w.t.length ≤ w.m
  | .lit l => Nat.le_refl _
  | .rc r => by
    have := lined_le "{" "}" r.ts
    have := Rc.len r
    have e1 : ("{" : Str).length = 1 := rfl
    have e2 : ("}" : Str).length = 1 := rfl
    show (lined "{" r.ts "}").length ≤ 4 + r.m
    omega
  | .rw t => by
    have := lined_le "[" "]" t.ts
    have := Rw.len t
    have e1 : ("[" : Str).length = 1 := rfl
    have e2 : ("]" : Str).length = 1 := rfl
    show (lined "[" t.ts "]").length ≤ 4 + t.m
    omega
theorem Rc.len : ∀ r : Rc, lenS r.ts ≤ r.m
  | .nil => Nat.le_refl _
  | .cons n w r => by
    have := Wo.len w
    have := Rc.len r
    show lenS ((n ++ ": " ++ w.t) :: r.ts) ≤ n.length + 3 + w.m + r.m
    rw [lenS_cons, len_app, len_app]
    have e : (": " : Str).length = 2 := rfl
    omega
theorem Rw.len : ∀ t : Rw, lenS t.ts ≤ t.m
  | .nil => Nat.le_refl _
  | .cons k r t => by
    have := lined_le "{" "}" r.ts
    have := Rc.len r
    have := Rw.len t
    have e1 : ("{" : Str).length = 1 := rfl
    have e2 : ("}" : Str).length = 1 := rfl
    have e3 : (" " : Str).length = 1 := rfl
    have e4 : ("#" : Str).length = 1 := rfl
    show lenS (("#" ++ nT k ++ " " ++ lined "{" r.ts "}") :: t.ts) ≤ (nT k).length + 7 + r.m + t.m
    rw [lenS_cons, len_app, len_app, len_app]
    omega
end
abbrev Path := List Lab
def pathD (p : Path) : PyData := .tuple (p.map Lab.d)
def pathT (p : Path) : Str := Txt.join "." (p.map Lab.t)
def Path.ok (p : Path) : Prop := p.length ≤ 60 ∧ ∀ l ∈ p, l.ok
end M91

set_option Elab.async false
set_option linter.all false
set_option maxRecDepth 100000
set_option maxHeartbeats 4000000
/-! the texts of literals, labels, paths, places, spots -/
namespace M91
open PySem PySem.Spec PyProof.Rows L2 GL
/-- a def of the program by its promise -/
structure DnO (P : Program) (w : World) (K : PySem.W.Frag) (mg : Str → Option Value) (base : Heap) (x : Str) (k : Nat) (ps : List Str) (sp : Sp) where
  f : Addr
  fd : FuncData
  ok : FnOk P w K mg base CX0 k f fd ps sp
  g : mg x = some (.ref f)
  kp : PySem.W.keepIn K (.ref f) = true
  b : Binds K fd ps []
def DnO.G {P : Program} {w : World} {K : PySem.W.Frag} {mg : Str → Option Value} {base : Heap} {x : Str} {k : Nat} {ps : List Str} {sp : Sp} (d : DnO P w K mg base x k ps sp) : DnG P w K mg base x k ps sp := ⟨d.f, d.fd, .of d.ok, d.g, d.kp, d.b⟩
theorem scLT : FnScope ["value"] ["value"] (defScope sLitT) := ⟨rfl, rfl, rfl, by decide +kernel, rfl, by decide +kernel, by decide +kernel⟩
theorem scLA : FnScope ["label"] ["label"] (defScope sLabT) := ⟨rfl, rfl, rfl, by decide +kernel, rfl, by decide +kernel, by decide +kernel⟩
theorem scPT : FnScope ["path", "label"] ["path"] (defScope sPathT) := ⟨rfl, rfl, rfl, by decide +kernel, rfl, by decide +kernel, by decide +kernel⟩
theorem scPL : FnScope ["place"] ["place"] (defScope sPlaceT) := ⟨rfl, rfl, rfl, by decide +kernel, rfl, by decide +kernel, by decide +kernel⟩
theorem scSP : FnScope ["spot", "file", "owner", "path"] ["spot"] (defScope sSpotT) := ⟨rfl, rfl, rfl, by decide +kernel, rfl, by decide +kernel, by decide +kernel⟩
/-- an expression in two ways, its value and heap by what is known of them -/
theorem if_anyH {t : TT} {a b : TE} {σ : L2.St} {H : Hp} {Q : VK} {R : V → Hp → Prop} (h : ∀ Q' : VK, (∀ v H', R v H' → Q' v H') → tIf t a b σ H Q') (q : ∀ v H', R v H' → Q v H') : tIf t a b σ H Q := h Q q
/-- x = an expression in two ways, and what follows -/
theorem asg_any {t : TT} {a b : TE} {g : TG} {u : TS} {D : Ends} {σ : L2.St} {H : Hp} {R : V → Hp → Prop} (h : ∀ Q' : VK, (∀ v H', R v H' → Q' v H') → tIf t a b σ H Q') (q : ∀ v H', R v H' → g v σ H' fun σ' H' => u D σ' H') : tSeq (tAsg (tIf t a b) g) u D σ H := h _ q
theorem log_le {n : Nat} (h : n < 2 ^ 60) : n.log2 < 1920 := by
  by_cases z : n = 0
  · rw [z]
    decide
  · have := (Nat.log2_lt z).mpr h
    omega
theorem big_le {n : Nat} (h : n ≤ 1000000) : n ≤ sizeLine := Nat.le_trans h (by decide)
theorem same_new {H : Hp} {p : Addr} {o : HO} (h : H p = none) : Same H (upd H p o) := fun b x e => by
  rw [upd_ne (ne_of_none e h)]
  exact e
theorem same_put {H H' : Hp} {p : Addr} {o : HO} (x : Same H H') (h : H p = none) : Same H (upd H' p o) := fun b y e => by
  rw [upd_ne (ne_of_none e h)]
  exact x b y e
theorem nT_len {k : Int} (h : k.natAbs < 2 ^ 60) : (nT k).length ≤ 30 := by
  have h1 := int_text_length_le10 (a := k) (k := 19) (by decide) (Nat.lt_of_lt_of_le h (by decide))
  show (Str.ofString (toString k)).length ≤ 30
  rw [PySem.ofString_length]
  omega
theorem Lab.len {l : Lab} (h : l.ok) : l.t.length ≤ 60 := by
  cases l with
  | w x => exact h
  | n k =>
    show ("#" ++ nT k).length ≤ 60
    rw [len_app]
    have := nT_len (k := k) (by have := h; simpa [Lab.ok] using h)
    have e : ("#" : Str).length = 1 := rfl
    omega
theorem Lit.len {l : Lit} (h : l.ok) : l.t.length ≤ 62 := by
  cases l with
  | s x =>
    show ("\"" ++ x ++ "\"").length ≤ 62
    rw [len_app, len_app]
    have h : x.length ≤ 60 := h
    have e : ("\"" : Str).length = 1 := rfl
    omega
  | i n =>
    have := nT_len (k := n) h
    show (nT n).length ≤ 62
    omega
section
variable {P : Program} {w : World} {K : PySem.W.Frag} {mg : Str → Option Value} {base : Heap}
def spLitT : Sp := fun vs H Q _ => ∃ l : Lit, vs = [l.v] ∧ l.ok ∧ Q (.str l.t) H
theorem ok_litT {f : Addr} {fd : FuncData} (F : Fun K "literal_text" "literal_text" sLitT f fd) (T : Bl K mg) : FnOk P w K mg base CX0 1 f fd ["value"] spLitT := by
  refine F.ok scLT (fun vs H Q E h => ?_) (fun cdv A outer s H vs Q E hr h => ?_)
  · obtain ⟨l, rfl, _⟩ := h
    rfl
  · obtain ⟨l, rfl, ok, q⟩ := h
    refine ⟨_, (pss_one (ps_ret (pe_ifExp (pt_val (pe_callB call_isi (by rfl) T.isinstance (by decide +kernel) (pa_cons (pv 0) (pa_cons (pe_bltn (v := .ty "int") (by rfl) T.int (by decide +kernel) rfl) pa_nil)))) (pe_callTy call_str_int (by rfl) T.str (by decide +kernel) (pa_cons (pv 0) pa_nil)) (pe_op op_add_str (pe_op op_add_str (pe_glob (v := .str "\"") (by rfl) T.cquote.choose_spec ⟨_, rfl⟩) (pv 0)) (pe_glob (v := .str "\"") (by rfl) T.cquote.choose_spec ⟨_, rfl⟩))))), ?_⟩
    cases l with
    | s x =>
      have hx : x.length ≤ 60 := ok
      refine ⟨.str x, rfl, .str x, .ty "int", _, _, false, rfl, .ty "int", .base (.str x), kit_ty (by decide +kernel), false, rfl, iteF ?_⟩
      refine ⟨.str x, rfl, _, x, rfl, rfl, big_le (by show 1 + x.length ≤ _; omega), _, _, rfl, rfl, big_le (by rw [len_app]; show 1 + x.length + 1 ≤ _; omega), q⟩
    | i n =>
      refine ⟨.int n, rfl, .int n, .ty "int", _, _, true, rfl, .ty "int", .base (.int n), kit_ty (by decide +kernel), true, rfl, iteT ?_⟩
      exact ⟨.int n, rfl, n, rfl, log_le ok, q⟩
def spLabT : Sp := fun vs H Q _ => ∃ l : Lab, vs = [l.v] ∧ l.ok ∧ Q (.str l.t) H
theorem ok_labT {f : Addr} {fd : FuncData} (F : Fun K "label_text" "label_text" sLabT f fd) (T : Bl K mg) : FnOk P w K mg base CX0 1 f fd ["label"] spLabT := by
  refine F.ok scLA (fun vs H Q E h => ?_) (fun cdv A outer s H vs Q E hr h => ?_)
  · obtain ⟨l, rfl, _⟩ := h
    rfl
  · obtain ⟨l, rfl, ok, q⟩ := h
    refine ⟨_, (pss_one (ps_ret (pe_ifExp (pt_val (pe_callB call_isi (by rfl) T.isinstance (by decide +kernel) (pa_cons (pv 0) (pa_cons (pe_bltn (v := .ty "str") (by rfl) T.str (by decide +kernel) rfl) pa_nil)))) (pv 0) (pe_op op_add_str (pe_glob (v := .str "#") (by rfl) T.cnumbermark.choose_spec ⟨_, rfl⟩) (pe_callTy call_str_int (by rfl) T.str (by decide +kernel) (pa_cons (pv 0) pa_nil)))))), ?_⟩
    cases l with
    | w x =>
      refine ⟨.str x, rfl, .str x, .ty "str", _, _, true, rfl, .ty "str", .base (.str x), kit_ty (by decide +kernel), true, rfl, iteT ?_⟩
      exact ⟨.str x, rfl, q⟩
    | n k =>
      have hk : k < 2 ^ 60 := ok
      refine ⟨.int k, rfl, .int k, .ty "str", _, _, false, rfl, .ty "str", .base (.int k), kit_ty (by decide +kernel), false, rfl, iteF ?_⟩
      have := nT_len (k := k) (by simpa using hk)
      exact ⟨.int k, rfl, k, rfl, log_le (by simpa using hk), _, _, rfl, rfl, big_le (by show 1 + (nT k).length ≤ _; omega), q⟩
theorem lab_at {p : Path} {i : Nat} {x : V} (h : (p.map Lab.v)[i]? = some x) : ∃ l, p[i]? = some l ∧ x = l.v := by
  rw [List.getElem?_map] at h
  cases e : p[i]? with
  | none =>
    rw [e] at h
    cases h
  | some l =>
    rw [e] at h
    exact ⟨l, rfl, (Option.some.inj h).symm⟩
theorem TVs.labs {H : Hp} : ∀ {p : Path} {vs : List V}, TVs K H vs (p.map Lab.d) → vs = p.map Lab.v
  | [], _, h => h.ofNil
  | .w x :: r, _, h => by
    obtain ⟨v, t, rfl, h1, h2⟩ := h.ofCons
    obtain rfl := h1.ofStr
    rw [TVs.labs h2]
    rfl
  | .n k :: r, _, h => by
    obtain ⟨v, t, rfl, h1, h2⟩ := h.ofCons
    obtain rfl := h1.ofInt
    rw [TVs.labs h2]
    rfl
theorem labs_tv {H : Hp} : ∀ p : Path, TVs K H (p.map Lab.v) (p.map Lab.d)
  | [] => .nil
  | .w x :: r => .cons (.str x) (labs_tv r)
  | .n k :: r => .cons (.int k) (labs_tv r)
theorem take_lab {α β : Type} {f : α → β} {l : List α} {i : Nat} {x : α} (h : l[i]? = some x) : (l.take (i + 1)).map f = (l.take i).map f ++ [f x] := by
  rw [List.take_add_one, h, List.map_append]
  rfl
theorem path_sum : ∀ p : Path, (∀ l ∈ p, l.ok) → ((p.map Lab.t).map (·.length)).sum ≤ 60 * p.length
  | [], _ => Nat.le_refl _
  | l :: r, h => by
    have := path_sum r fun x hx => h x (List.mem_cons_of_mem _ hx)
    have := Lab.len (h l (List.mem_cons_self ..))
    rw [List.map_cons, List.map_cons, List.sum_cons, List.length_cons]
    omega
theorem pathT_len {p : Path} (h : Path.ok p) : (pathT p).length ≤ 4000 := by
  have h1 := join_le "." (p.map Lab.t)
  have h2 := path_sum p h.2
  have h3 := h.1
  have e : ("." : Str).length = 1 := rfl
  rw [e, List.length_map] at h1
  unfold pathT
  omega
def spPathT (K : PySem.W.Frag) : Sp := fun vs H Q _ => ∃ (v : V) (p : Path), vs = [v] ∧ TV K H v (pathD p) ∧ Path.ok p ∧ ∀ H', Same H H' → Q (.str (pathT p)) H'
theorem ok_pathT {f : Addr} {fd : FuncData} (F : Fun K "path_text" "path_text" sPathT f fd) (T : Bl K mg) (d_label_text : DnO P w K mg base "label_text" 1 ["label"] spLabT) : FnOk P w K mg base CX0 2 f fd ["path"] (spPathT K) := by
  refine F.ok scPT (fun vs H Q E h => ?_) (fun cdv A outer s H vs Q E hr h => ?_)
  · obtain ⟨v, p, rfl, _⟩ := h
    rfl
  · obtain ⟨v, p, rfl, tv, ok, q⟩ := h
    obtain ⟨a, xs, rfl, hT, ts⟩ := tv.ofTup
    obtain rfl := ts.labs
    refine ⟨_, (pss_one (ps_ret (pe_join (pe_glob (v := .str ".") (by rfl) T.cdot.choose_spec ⟨_, rfl⟩) (pe_lc (own := [("label", 1)]) (g := gName 1) (by rfl) scPT.nd (pi_tup (pv 0)) (blkOk_by (own := [("label", 1)]) (N := ["path", "label"]) (sc := defScope sPathT) (by decide +kernel)) (fun _ _ _ _ _ => (pg_name (i := 1) scPT.nd rfl (Or.inl rfl))) (fun _ _ _ _ _ => pts_nil) (fun _ _ _ _ _ => (pe_call d_label_text.ok (hr.mono (by omega)) (by rfl) d_label_text.g d_label_text.kp d_label_text.b .nil pass0 (pa_cons (pv 1) pa_nil))))))), ?_⟩
    refine ⟨⟨_, rfl⟩, .ref a, rfl, a, rfl, ⟨_, hT⟩, fun D nD => ?_⟩
    refine lc_tup (K := K) (a := a) (xs := p.map Lab.v) (fun i H2 => Same H H2 ∧ H2 D = some (.lst (((p.take i).map Lab.t).map V.str))) ⟨same_new nD, upd_same⟩ (fun i H2 _ hP => SqT.tk (tk_same hP.1) hT) (fun i x H2 hx hP => ?_) (fun H2 hP => ?_)
    · obtain ⟨sm, hD⟩ := hP
      obtain ⟨l, hl, rfl⟩ := lab_at hx
      have hi : i < p.length := (List.getElem?_eq_some_iff.mp hl).1
      refine ⟨rfl, l.v, rfl, l, rfl, ok.2 l (List.mem_of_getElem? hl), _, hD, ?_, same_put sm nD, ?_⟩
      · rw [List.length_map, List.length_map, List.length_take]
        have := ok.1
        exact Nat.lt_of_le_of_lt (Nat.min_le_left _ _) (Nat.lt_of_lt_of_le (by omega) (big_le (n := 1000) (by decide)))
      · rw [upd_same, take_lab hl, List.map_append]
        rfl
    · obtain ⟨sm, hD⟩ := hP
      rw [List.length_map, List.take_length] at hD
      have h2 := path_sum p ok.2
      have h3 := ok.1
      refine ⟨_, D, _, rfl, rfl, .inl (SqL.of hD), ?_, q H2 sm⟩
      have e : ("." : Str).length = 1 := rfl
      rw [List.length_map]
      show _ + p.length * 1 ≤ _
      omega
/-! places, spots -/
abbrev Place := Str × Path
def placeD (x : Place) : PyData := .tuple [.str x.1, pathD x.2]
def placeT (x : Place) : Str := x.1 ++ "/" ++ pathT x.2
def Place.ok (x : Place) : Prop := x.1.length ≤ 60 ∧ Path.ok x.2
theorem placeT_len {x : Place} (h : Place.ok x) : (placeT x).length ≤ 5000 := by
  have := pathT_len h.2
  have := h.1
  unfold placeT
  rw [len_app, len_app]
  have e : ("/" : Str).length = 1 := rfl
  omega
def spPlaceT (K : PySem.W.Frag) : Sp := fun vs H Q _ => ∃ (v : V) (p : Place), vs = [v] ∧ TV K H v (placeD p) ∧ Place.ok p ∧ ∀ H', Same H H' → Q (.str (placeT p)) H'
theorem ok_placeT {f : Addr} {fd : FuncData} (F : Fun K "place_text" "place_text" sPlaceT f fd) (T : Bl K mg) (d_path_text : DnO P w K mg base "path_text" 2 ["path"] (spPathT K)) : FnOk P w K mg base CX0 3 f fd ["place"] (spPlaceT K) := by
  refine F.ok scPL (fun vs H Q E h => ?_) (fun cdv A outer s H vs Q E hr h => ?_)
  · obtain ⟨v, p, rfl, _⟩ := h
    rfl
  · obtain ⟨v, ⟨x, p⟩, rfl, tv, ok, q⟩ := h
    obtain ⟨a, xs, rfl, hT, ts⟩ := tv.ofTup
    obtain ⟨u1, u2, rfl, t1, t2⟩ := ts.of2
    obtain rfl := t1.ofStr
    refine ⟨_, (pss_one (ps_ret (pe_op op_add_str (pe_op op_add_str (pe_ix (r := rIxT K) ix_tup (pv 0) pe_int (fun _ _ => rfl)) (pe_glob (v := .str "/") (by rfl) T.cslash.choose_spec ⟨_, rfl⟩)) (pe_call d_path_text.ok (hr.mono (by omega)) (by rfl) d_path_text.g d_path_text.kp d_path_text.b .nil pass0 (pa_cons (pe_ix (r := rIxT K) ix_tup (pv 0) pe_int (fun _ _ => rfl)) pa_nil))))), ?_⟩
    have hx : x.length ≤ 60 := ok.1
    have hp := pathT_len (p := p) ok.2
    refine ⟨.ref a, rfl, a, _, 0, .str x, rfl, rfl, hT, rfl, x, _, rfl, rfl, big_le (by show x.length + 1 ≤ _; omega), .ref a, rfl, a, _, 1, u2, rfl, rfl, hT, rfl, u2, p, rfl, t2, ok.2, fun H' sm => ?_⟩
    refine ⟨_, _, rfl, rfl, big_le ?_, q H' sm⟩
    rw [len_app]
    show x.length + 1 + _ ≤ _
    omega
structure Spot where
  f : Str
  o : Str
  p : Path
def Spot.d (x : Spot) : PyData := .tuple [.str x.f, .str x.o, pathD x.p]
def Spot.t (x : Spot) : Str := Txt.join "/" [x.f, x.o, pathT x.p]
def Spot.ok (x : Spot) : Prop := x.f.length ≤ 60 ∧ x.o.length ≤ 60 ∧ Path.ok x.p
theorem Spot.len {x : Spot} (h : x.ok) : x.t.length ≤ 5000 := by
  have := pathT_len h.2.2
  have := h.1
  have := h.2.1
  have h1 := join_le "/" [x.f, x.o, pathT x.p]
  have e : ("/" : Str).length = 1 := rfl
  rw [e] at h1
  simp only [List.map_cons, List.map_nil, List.sum_cons, List.sum_nil, List.length_cons, List.length_nil] at h1
  unfold Spot.t
  omega
def spSpotT (K : PySem.W.Frag) : Sp := fun vs H Q _ => ∃ (v : V) (x : Spot), vs = [v] ∧ TV K H v x.d ∧ x.ok ∧ ∀ H', Same H H' → Q (.str x.t) H'
theorem ok_spotT {f : Addr} {fd : FuncData} (F : Fun K "spot_text" "spot_text" sSpotT f fd) (T : Bl K mg) (d_path_text : DnO P w K mg base "path_text" 2 ["path"] (spPathT K)) : FnOk P w K mg base CX0 3 f fd ["spot"] (spSpotT K) := by
  refine F.ok scSP (fun vs H Q E h => ?_) (fun cdv A outer s H vs Q E hr h => ?_)
  · obtain ⟨v, p, rfl, _⟩ := h
    rfl
  · obtain ⟨v, ⟨x, o, p⟩, rfl, tv, ok, q⟩ := h
    obtain ⟨a, xs, rfl, hT, ts⟩ := tv.ofTup
    obtain ⟨u1, u2, u3, rfl, t1, t2, t3⟩ := ts.of3
    obtain rfl := t1.ofStr
    obtain rfl := t2.ofStr
    have hx : x.length ≤ 60 := ok.1
    have ho : o.length ≤ 60 := ok.2.1
    have hp := pathT_len (p := p) ok.2.2
    refine ⟨_, (pss_cons (ps_asg (pv 0) (pg_tup rfl (pgs_cons (pg_name (i := 1) scSP.nd rfl (Or.inl rfl)) (pgs_cons (pg_name (i := 2) scSP.nd rfl (Or.inl rfl)) (pgs_cons (pg_name (i := 3) scSP.nd rfl (Or.inl rfl)) pgs_nil)))))
      (pss_one (ps_ret (pe_join (pe_glob (v := .str "/") (by rfl) T.cslash.choose_spec ⟨_, rfl⟩) (pe_lst (pa_cons (pv 1) (pa_cons (pv 2) (pa_cons (pe_call d_path_text.ok (hr.mono (by omega)) (by rfl) d_path_text.g d_path_text.kp d_path_text.b .nil pass0 (pa_cons (pv 3) pa_nil)) pa_nil)))))))), ?_⟩
    refine ⟨.ref a, rfl, a, _, rfl, hT, rfl, _, _, rfl, _, _, rfl, _, _, rfl, rfl, ?_⟩
    refine ⟨⟨_, rfl⟩, .str x, rfl, .str o, rfl, u3, rfl, u3, p, rfl, t3, ok.2.2, fun H' sm => ⟨by show 3 ≤ sizeLine; decide, fun D nD => ?_⟩⟩
    refine ⟨_, D, [x, o, pathT p], rfl, rfl, .inl (SqL.of upd_same), ?_, q _ (same_put sm (sm.free nD))⟩
    simp only [List.map_cons, List.map_nil, List.sum_cons, List.sum_nil, List.length_cons, List.length_nil]
    show _ + 3 * 1 ≤ _
    omega
end
end M91

set_option Elab.async false
set_option linter.all false
set_option maxRecDepth 100000
set_option maxHeartbeats 4000000
/-! the texts of records and rows -/
namespace M91
open PySem PySem.Spec PyProof.Rows L2 GL
theorem scWT : FnScope ["worth", "has_serials", "serial", "record"] ["worth", "has_serials"] (defScope sWorthT) := ⟨rfl, rfl, rfl, by decide +kernel, rfl, by decide +kernel, by decide +kernel⟩
theorem scRT : FnScope ["serial", "record", "has_serials", "shown"] ["serial", "record", "has_serials"] (defScope sRowT) := ⟨rfl, rfl, rfl, by decide +kernel, rfl, by decide +kernel, by decide +kernel⟩
theorem scCT : FnScope ["record", "has_serials", "label", "worth"] ["record", "has_serials"] (defScope sRecT) := ⟨rfl, rfl, rfl, by decide +kernel, rfl, by decide +kernel, by decide +kernel⟩
/-- the fields of a record, one by one -/
def Rc.fs : Rc → List (Str × Wo)
  | .nil => []
  | .cons n w r => (n, w) :: r.fs
def Rw.rs : Rw → List (Nat × Rc)
  | .nil => []
  | .cons k r t => (k, r) :: t.rs
theorem Rc.ds_at : ∀ {r : Rc} {i : Nat} {d : PyData}, r.ds[i]? = some d → ∃ n w, r.fs[i]? = some (n, w) ∧ d = .tuple [.str n, w.d]
  | .nil, _, _, h => by simp [Rc.ds] at h
  | .cons n w r, 0, d, h => by
    simp [Rc.ds] at h
    exact ⟨n, w, rfl, h.symm⟩
  | .cons n w r, i + 1, d, h => Rc.ds_at (r := r) (i := i) (by simpa [Rc.ds] using h)
theorem Rw.ds_at : ∀ {t : Rw} {i : Nat} {d : PyData}, t.ds[i]? = some d → ∃ k r, t.rs[i]? = some (k, r) ∧ d = .tuple [.int (k : Nat), .tuple r.ds]
  | .nil, _, _, h => by simp [Rw.ds] at h
  | .cons k r t, 0, d, h => by
    simp [Rw.ds] at h
    exact ⟨k, r, rfl, h.symm⟩
  | .cons k r t, i + 1, d, h => Rw.ds_at (t := t) (i := i) (by simpa [Rw.ds] using h)
theorem Rc.ds_len : ∀ r : Rc, r.ds.length = r.fs.length
  | .nil => rfl
  | .cons n w r => by
    show r.ds.length + 1 = r.fs.length + 1
    rw [Rc.ds_len r]
theorem Rw.ds_len : ∀ r : Rw, r.ds.length = r.rs.length
  | .nil => rfl
  | .cons n w r => by
    show r.ds.length + 1 = r.rs.length + 1
    rw [Rw.ds_len r]
def fT (x : Str × Wo) : Str := x.1 ++ ": " ++ x.2.t
def rT (x : Nat × Rc) : Str := "#" ++ nT x.1 ++ " " ++ x.2.t
theorem Rc.ts_eq : ∀ r : Rc, r.ts = r.fs.map fT
  | .nil => rfl
  | .cons n w r => by
    show _ :: r.ts = _ :: r.fs.map fT
    rw [Rc.ts_eq r]
    rfl
theorem Rw.ts_eq : ∀ r : Rw, r.ts = r.rs.map rT
  | .nil => rfl
  | .cons n w r => by
    show _ :: r.ts = _ :: r.rs.map rT
    rw [Rw.ts_eq r]
    rfl
theorem Rc.mem : ∀ {r : Rc} {n : Str} {w : Wo}, (n, w) ∈ r.fs → r.ok → n.length ≤ 60 ∧ w.ok ∧ w.h ≤ r.h ∧ n.length + 3 + w.m ≤ r.m
  | .nil, _, _, h, _ => by simp [Rc.fs] at h
  | .cons n w r, n', w', h, ok => by
    obtain ⟨o1, o2, o3⟩ := ok
    rcases List.mem_cons.mp h with e | h
    · cases e
      refine ⟨o1, o2, Nat.le_max_left _ _, ?_⟩
      show n.length + 3 + w.m ≤ n.length + 3 + w.m + r.m
      omega
    · obtain ⟨h1, h2, h3, h4⟩ := Rc.mem h o3
      refine ⟨h1, h2, Nat.le_trans h3 (Nat.le_max_right _ _), ?_⟩
      show _ ≤ n.length + 3 + w.m + r.m
      omega
theorem Rw.mem : ∀ {t : Rw} {k : Nat} {r : Rc}, (k, r) ∈ t.rs → t.ok → k < 2 ^ 60 ∧ r.ok ∧ r.h ≤ t.h ∧ (nT k).length + 7 + r.m ≤ t.m
  | .nil, _, _, h, _ => by simp [Rw.rs] at h
  | .cons k r t, k', r', h, ok => by
    obtain ⟨o1, o2, o3⟩ := ok
    rcases List.mem_cons.mp h with e | h
    · cases e
      refine ⟨o1, o2, Nat.le_max_left _ _, ?_⟩
      show (nT k).length + 7 + r.m ≤ (nT k).length + 7 + r.m + t.m
      omega
    · obtain ⟨h1, h2, h3, h4⟩ := Rw.mem h o3
      refine ⟨h1, h2, Nat.le_trans h3 (Nat.le_max_right _ _), ?_⟩
      show _ ≤ (nT k).length + 7 + r.m + t.m
      omega
theorem Rc.cnt : ∀ r : Rc, r.fs.length ≤ r.m
  | .nil => Nat.le_refl _
  | .cons n w r => by
    have := Rc.cnt r
    show r.fs.length + 1 ≤ n.length + 3 + w.m + r.m
    omega
theorem Rw.cnt : ∀ r : Rw, r.rs.length ≤ r.m
  | .nil => Nat.le_refl _
  | .cons n w r => by
    have := Rw.cnt r
    show r.rs.length + 1 ≤ (nT n).length + 7 + w.m + r.m
    omega
theorem Rc.t_len (r : Rc) : r.t.length ≤ 4 + r.m := Wo.len (.rc r)
theorem kTT : kitB "tuple" "tuple" = some true := by decide +kernel
theorem kST : kitB "str" "tuple" = some false := by decide +kernel
theorem kIT : kitB "int" "tuple" = some false := by decide +kernel
theorem kIS : kitB "int" "str" = some false := by decide +kernel
theorem kSS : kitB "str" "str" = some true := by decide +kernel
theorem empty_app (x : Str) : Str.empty ++ x = x := by
  obtain ⟨c⟩ := x
  show Str.mk (#[] ++ c) = _
  rw [Array.empty_append]
section
variable {P : Program} {w : World} {K : PySem.W.Frag} {mg : Str → Option Value} {base : Heap}
def spWorthT (K : PySem.W.Frag) (n : Nat) : Sp := fun vs H Q _ => ∃ (v : V) (x : Wo), vs = [v, .bl true] ∧ TV K H v x.d ∧ x.ok ∧ x.h ≤ n ∧ x.m ≤ 500000 ∧ ∀ H', Same H H' → Q (.str x.t) H'
def spRowT (K : PySem.W.Frag) (n : Nat) : Sp := fun vs H Q _ => ∃ (v : V) (k : Nat) (x : Rc), vs = [.int k, v, .bl true] ∧ k < 2 ^ 60 ∧ TV K H v (.tuple x.ds) ∧ x.ok ∧ x.h ≤ n ∧ x.m ≤ 500000 ∧ ∀ H', Same H H' → Q (.str (rT (k, x))) H'
def spRecT (K : PySem.W.Frag) (n : Nat) : Sp := fun vs H Q _ => ∃ (v : V) (x : Rc), vs = [v, .bl true] ∧ TV K H v (.tuple x.ds) ∧ x.ok ∧ x.h ≤ n ∧ x.m ≤ 500000 ∧ ∀ H', Same H H' → Q (.str x.t) H'
theorem ok_recT {n : Nat} {f : Addr} {fd : FuncData} (F : Fun K "record_text" "record_text" sRecT f fd) (T : Bl K mg) (d_worth_text : DnO P w K mg base "worth_text" (2 + 3 * n) ["worth", "has_serials"] (spWorthT K n)) : FnOk P w K mg base CX0 (3 + 3 * n) f fd ["record", "has_serials"] (spRecT K n) := by
  have e3 : 3 + 3 * n = (2 + 3 * n) + 1 := by omega
  rw [e3]
  refine F.ok scCT (fun vs H Q E h => ?_) (fun cdv A outer s H vs Q E hr h => ?_)
  · obtain ⟨v, p, rfl, _⟩ := h
    rfl
  · obtain ⟨v, x, rfl, tv, ok, hh, hm, q⟩ := h
    obtain ⟨a, xs, rfl, hT, ts⟩ := tv.ofTup
    have lx : xs.length = x.fs.length := by rw [ts.length, Rc.ds_len]
    refine ⟨_, (pss_one (ps_ret (pe_join (pe_glob (v := .str " ") (by rfl) T.cblank.choose_spec ⟨_, rfl⟩) (pe_lst (pa_cons pe_str (StX.pa_star (pe_lc (own := [("label", 2), ("worth", 3)]) (g := gTup K 2 (gCons (gName 2) (gCons (gName 3) gNil))) (by rfl) scCT.nd (pi_tup (pv 0)) (blkOk_by (own := [("label", 2), ("worth", 3)]) (N := ["record", "has_serials", "label", "worth"]) (sc := defScope sRecT) (by decide +kernel)) (fun _ _ _ _ _ => (pg_tup rfl (pgs_cons (pg_name (i := 2) scCT.nd rfl (Or.inl rfl)) (pgs_cons (pg_name (i := 3) scCT.nd rfl (Or.inl rfl)) pgs_nil)))) (fun _ _ _ _ _ => pts_nil) (fun _ _ _ _ _ => (pe_joinedN (.cons (pe_fmt (pv 2)) (.cons pe_str (.cons (pe_fmt (pe_call d_worth_text.ok (hr.mono (by omega)) (by rfl) d_worth_text.g d_worth_text.kp d_worth_text.b .nil pass0 (pa_cons (pv 3) (pa_cons (pv 1) pa_nil)))) .nil)))))) (pa_cons pe_str pa_nil))))))), ?_⟩
    refine ⟨⟨_, rfl⟩, .ref a, rfl, a, rfl, ⟨_, hT⟩, fun D nD => ?_⟩
    refine lc_tup (K := K) (a := a) (xs := xs) (fun i H2 => Same H H2 ∧ H2 D = some (.lst (((x.fs.take i).map fT).map V.str))) ⟨same_new nD, upd_same⟩ (fun i H2 _ hP => SqT.tk (tk_same hP.1) hT) (fun i y H2 hx hP => ?_) (fun H2 hP => ?_)
    · obtain ⟨sm, hD⟩ := hP
      obtain ⟨d, hd, ty⟩ := ts.get hx
      obtain ⟨nm, wo, hf, rfl⟩ := Rc.ds_at hd
      obtain ⟨b, ys, rfl, hB, tb⟩ := ty.ofTup
      obtain ⟨u1, u2, rfl, t1, t2⟩ := tb.of2
      obtain rfl := t1.ofStr
      obtain ⟨m1, m2, m3, m4⟩ := Rc.mem (List.mem_of_getElem? hf) ok
      have hi : i < x.fs.length := (List.getElem?_eq_some_iff.mp hf).1
      have lw := wo.len
      have cn := Rc.cnt x
      refine ⟨b, _, rfl, SqT.tk (tk_same sm) hB, rfl, _, _, rfl, _, _, rfl, rfl, rfl, .str nm, rfl, .inl ⟨nm, rfl, big_le (by omega), nm, rfl, ?_, _, rfl, ?_, u2, rfl, .bl true, rfl, u2, wo, rfl, t2.tk (tk_same sm), m2, by omega, by omega, fun H3 sm3 => .inl ⟨_, rfl, big_le (by omega), _, rfl, ?_, _, sm3 _ _ hD, ?_, same_put (sm.trans sm3) nD, ?_⟩⟩⟩
      · rw [empty_app]
        exact big_le (by omega)
      · rw [empty_app, len_app]
        show nm.length + 2 ≤ _
        exact big_le (by omega)
      · rw [empty_app, len_app, len_app]
        show nm.length + 2 + _ ≤ _
        exact big_le (by omega)
      · rw [List.length_map, List.length_map, List.length_take]
        exact Nat.lt_of_le_of_lt (Nat.min_le_left _ _) (Nat.lt_of_lt_of_le (by omega) (big_le (n := 1000000) (by decide)))
      · rw [upd_same, take_lab hf, List.map_append, empty_app]
        rfl
    · obtain ⟨sm, hD⟩ := hP
      rw [lx, List.take_length, ← Rc.ts_eq] at hD
      refine ⟨D, _, rfl, .inr (SqL.of hD), ?_⟩
      have lt := Rc.len x
      have l2 : x.ts.length ≤ lenS x.ts := by unfold lenS; omega
      refine ⟨by rw [List.length_cons, List.length_append, List.length_map]; exact big_le (by show _ + 1 + 1 ≤ _; omega), fun L nL => ?_⟩
      refine ⟨_, L, ("{" : Str) :: (x.ts ++ [("}" : Str)]), rfl, rfl, .inl (SqL.of ?_), ?_, q _ (same_put sm (sm.free nL))⟩
      · rw [upd_same]
        show _ = some (HO.lst (V.str ("{" : Str) :: (x.ts ++ [("}" : Str)]).map V.str))
        rw [List.map_append]
        rfl
      · have e : (" " : Str).length = 1 := rfl
        rw [e, Nat.mul_one]
        show lenS (("{" : Str) :: (x.ts ++ [("}" : Str)])) ≤ _
        rw [lenS_cons, lenS_app]
        show 1 + 1 + (_ + 2) ≤ _
        omega
theorem ok_rowT {n : Nat} {f : Addr} {fd : FuncData} (F : Fun K "row_text" "row_text" sRowT f fd) (T : Bl K mg) (d_record_text : DnO P w K mg base "record_text" (3 + 3 * n) ["record", "has_serials"] (spRecT K n)) (d_label_text : DnO P w K mg base "label_text" 1 ["label"] spLabT) :
    FnOk P w K mg base CX0 (4 + 3 * n) f fd ["serial", "record", "has_serials"] (spRowT K n) := by
  have e3 : 4 + 3 * n = (3 + 3 * n) + 1 := by omega
  rw [e3]
  refine F.ok scRT (fun vs H Q E h => ?_) (fun cdv A outer s H vs Q E hr h => ?_)
  · obtain ⟨v, k, p, rfl, _⟩ := h
    rfl
  · obtain ⟨v, k, x, rfl, hk, tv, ok, hh, hm, q⟩ := h
    refine ⟨_, (pss_cons (ps_set (i := 3) scRT.nd rfl (Or.inl rfl) (pe_call d_record_text.ok (hr.mono (by omega)) (by rfl) d_record_text.g d_record_text.kp d_record_text.b .nil pass0 (pa_cons (pv 1) (pa_cons (pv 2) pa_nil))))
      (pss_one (ps_ret (pe_ifExp (pt_val (pv 2)) (pe_op op_add_str (pe_op op_add_str (pe_call d_label_text.ok (hr.mono (by omega)) (by rfl) d_label_text.g d_label_text.kp d_label_text.b .nil pass0 (pa_cons (pv 0) pa_nil)) (pe_glob (v := .str " ") (by rfl) T.cblank.choose_spec ⟨_, rfl⟩)) (pv 3)) (pv 3))))), ?_⟩
    have tl := Rc.t_len x
    have nl := nT_len (k := (k : Nat)) (by simpa using hk)
    refine ⟨v, rfl, .bl true, rfl, v, x, rfl, tv, ok, hh, hm, fun H1 sm => ?_⟩
    refine ⟨.bl true, rfl, true, rfl, iteT ?_⟩
    refine ⟨.int k, rfl, .n k, rfl, hk, _, _, rfl, rfl, ?_, .str x.t, rfl, _, _, rfl, rfl, ?_, q H1 sm⟩
    · show ("#" ++ nT k).length + 1 ≤ _
      rw [len_app]
      show 1 + (nT k).length + 1 ≤ _
      exact big_le (by omega)
    · rw [len_app]
      show ("#" ++ nT k).length + 1 + _ ≤ _
      rw [len_app]
      show 1 + (nT k).length + 1 + _ ≤ _
      exact big_le (by omega)
theorem ok_worthT {n : Nat} {f : Addr} {fd : FuncData} (F : Fun K "worth_text" "worth_text" sWorthT f fd) (T : Bl K mg) (d_literal_text : DnO P w K mg base "literal_text" 1 ["value"] spLitT)
    (d_record_text : 0 < n → DnO P w K mg base "record_text" (3 * n) ["record", "has_serials"] (spRecT K (n - 1))) (d_row_text : 0 < n → DnO P w K mg base "row_text" (1 + 3 * n) ["serial", "record", "has_serials"] (spRowT K (n - 1))) :
    FnOk P w K mg base CX0 (2 + 3 * n) f fd ["worth", "has_serials"] (spWorthT K n) := by
  have e3 : 2 + 3 * n = (1 + 3 * n) + 1 := by omega
  rw [e3]
  refine F.ok scWT (fun vs H Q E h => ?_) (fun cdv A outer s H vs Q E hr h => ?_)
  · obtain ⟨v, p, rfl, _⟩ := h
    rfl
  · obtain ⟨v, x, rfl, tv, ok, hh, hm, q⟩ := h
    cases x with
    | lit l =>
      refine ⟨_, (pss_cons (ps_if (pt_not (pt_val (pe_callB call_isi (by rfl) T.isinstance (by decide +kernel) (pa_cons (pv 0) (pa_cons (pe_bltn (v := .ty "tuple") (by rfl) T.tuple (by decide +kernel) rfl) pa_nil)))))
        (pss_one (ps_ret (pe_call d_literal_text.ok (hr.mono (by omega)) (by rfl) d_literal_text.g d_literal_text.kp d_literal_text.b .nil pass0 (pa_cons (pv 0) pa_nil))))
        pss_nil) (pss_cons ps_never (pss_one ps_never))), ?_⟩
      have hv : v = l.v := by
        cases l with
        | s x => exact tv.ofStr
        | i n => exact tv.ofInt
      subst hv
      refine ⟨l.v, rfl, l.v, .ty "tuple", _, _, false, rfl, .ty "tuple", tv.ty, ?_, false, rfl, iteT ?_⟩
      · cases l with
        | s x => exact kit_ty kST
        | i n => exact kit_ty kIT
      · exact ⟨l.v, rfl, l, rfl, ok, q H (Same.refl H)⟩
    | rc r =>
      have h0 : 0 < n := by
        have : r.h + 1 ≤ n := hh
        omega
      have d_record_text := d_record_text h0
      have d_row_text := d_row_text h0
      obtain ⟨ne, ok⟩ := ok
      cases r with
      | nil => exact absurd rfl ne
      | cons nm wo r =>
        obtain ⟨a, xs, rfl, hT, ts⟩ := tv.ofTup
        obtain ⟨y, ys, rfl, ty, tys⟩ := ts.ofCons
        obtain ⟨b, zs, rfl, hB, tb⟩ := ty.ofTup
        obtain ⟨u1, u2, rfl, t1, t2⟩ := tb.of2
        obtain rfl := t1.ofStr
        refine ⟨_, (pss_cons (ps_if (pt_not (pt_val (pe_callB call_isi (by rfl) T.isinstance (by decide +kernel) (pa_cons (pv 0) (pa_cons (pe_bltn (v := .ty "tuple") (by rfl) T.tuple (by decide +kernel) rfl) pa_nil)))))
        (pss_one (ps_ret (pe_call d_literal_text.ok (hr.mono (by omega)) (by rfl) d_literal_text.g d_literal_text.kp d_literal_text.b .nil pass0 (pa_cons (pv 0) pa_nil))))
        pss_nil)
      (pss_cons (ps_if (PW.pt (pw_and (pt_cmpR (op_ne0 hr.units0) (pv 0) (pe_tup pa_nil) (nomark _)) (pw_and1 (pt_val (pe_callB call_isi (by rfl) T.isinstance (by decide +kernel) (pa_cons (pe_ix (r := rIxT K) ix_tup (pe_ix (r := rIxT K) ix_tup (pv 0) pe_int (fun _ _ => rfl)) pe_int (fun _ _ => rfl)) (pa_cons (pe_bltn (v := .ty "str") (by rfl) T.str (by decide +kernel) rfl) pa_nil)))))))
        (pss_one (ps_ret (pe_call d_record_text.ok (hr.mono (by omega)) (by rfl) d_record_text.g d_record_text.kp d_record_text.b .nil pass0 (pa_cons (pv 0) (pa_cons (pv 1) pa_nil)))))
        pss_nil)
      (pss_one (ps_ret (pe_join (pe_glob (v := .str " ") (by rfl) T.cblank.choose_spec ⟨_, rfl⟩) (pe_lst (pa_cons pe_str (StX.pa_star (pe_lc (own := [("serial", 2), ("record", 3)]) (g := gTup K 2 (gCons (gName 2) (gCons (gName 3) gNil))) (by rfl) scWT.nd (pi_tup (pv 0)) (blkOk_by (own := [("serial", 2), ("record", 3)]) (N := ["worth", "has_serials", "serial", "record"]) (sc := defScope sWorthT) (by decide +kernel)) (fun _ _ _ _ _ => (pg_tup rfl (pgs_cons (pg_name (i := 2) scWT.nd rfl (Or.inl rfl)) (pgs_cons (pg_name (i := 3) scWT.nd rfl (Or.inl rfl)) pgs_nil)))) (fun _ _ _ _ _ => pts_nil) (fun _ _ _ _ _ => (pe_call d_row_text.ok (hr.mono (by omega)) (by rfl) d_row_text.g d_row_text.kp d_row_text.b .nil pass0 (pa_cons (pv 2) (pa_cons (pv 3) (pa_cons (pv 1) pa_nil)))))) (pa_cons pe_str pa_nil))))))))), ?_⟩
        refine ⟨.ref a, rfl, .ref a, .ty "tuple", _, _, true, rfl, .ty "tuple", tv.ty, kit_ty kTT, true, rfl, iteF ?_⟩
        refine ⟨.ref a, rfl, by show 0 ≤ sizeLine; decide, fun p np => ?_⟩
        have s1 := same_new (o := .tup []) np
        refine ⟨a, p, _, rfl, rfl, SqT.tk (tk_same s1) hT, SqT.of upd_same, true, rfl, iteT ?_⟩
        refine ⟨.ref a, rfl, a, _, 0, .ref b, rfl, rfl, SqT.tk (tk_same s1) hT, atI_nat (j := 0) rfl, b, _, 0, .str nm, rfl, rfl, SqT.tk (tk_same s1) hB, rfl, .str nm, .ty "str", _, _, true, rfl, .ty "str", .base (.str nm), kit_ty (by decide +kernel), true, rfl, iteT ?_⟩
        have hh : (Rc.cons nm wo r).h + 1 ≤ n := hh
        have hm : 4 + (Rc.cons nm wo r).m ≤ 500000 := hm
        exact ⟨.ref a, rfl, .bl true, rfl, .ref a, .cons nm wo r, rfl, tv.tk (tk_same s1), ok, by omega, by omega, fun H' sm => q H' (s1.trans sm)⟩
    | rw t =>
      have h0 : 0 < n := by
        have : t.h + 1 ≤ n := hh
        omega
      have d_record_text := d_record_text h0
      have d_row_text := d_row_text h0
      have ok : t.ok := ok
      have hm : 4 + t.m ≤ 500000 := hm
      have hh : t.h + 1 ≤ n := hh
      obtain ⟨a, xs, rfl, hT, ts⟩ := tv.ofTup
      have lx : xs.length = t.rs.length := by rw [ts.length, Rw.ds_len]
      obtain ⟨t3, S3, h3⟩ : ∃ t3, PSs (cxOf CX0 P w K mg base ["worth", "has_serials", "serial", "record"] "worth_text" (defScope sWorthT) f cdv A outer s H E).nox ((defBody sWorthT).drop 2) t3 ∧
          ∀ H0, Same H H0 → t3 { nx := fun _ H' => Q .non H', rt := Q } (L2.start ["worth", "has_serials", "serial", "record"] [.ref a, .bl true]) H0 := by
        refine ⟨_, (pss_one (ps_ret (pe_join (pe_glob (v := .str " ") (by rfl) T.cblank.choose_spec ⟨_, rfl⟩) (pe_lst (pa_cons pe_str (StX.pa_star (pe_lc (own := [("serial", 2), ("record", 3)]) (g := gTup K 2 (gCons (gName 2) (gCons (gName 3) gNil))) (by rfl) scWT.nd (pi_tup (pv 0)) (blkOk_by (own := [("serial", 2), ("record", 3)]) (N := ["worth", "has_serials", "serial", "record"]) (sc := defScope sWorthT) (by decide +kernel)) (fun _ _ _ _ _ => (pg_tup rfl (pgs_cons (pg_name (i := 2) scWT.nd rfl (Or.inl rfl)) (pgs_cons (pg_name (i := 3) scWT.nd rfl (Or.inl rfl)) pgs_nil)))) (fun _ _ _ _ _ => pts_nil) (fun _ _ _ _ _ => (pe_call d_row_text.ok (hr.mono (by omega)) (by rfl) d_row_text.g d_row_text.kp d_row_text.b .nil pass0 (pa_cons (pv 2) (pa_cons (pv 3) (pa_cons (pv 1) pa_nil)))))) (pa_cons pe_str pa_nil))))))), fun H0 s1 => ?_⟩
        have hT := SqT.tk (tk_same s1) hT
        have ts := ts.tk (tk_same s1)
        refine ⟨⟨_, rfl⟩, .ref a, rfl, a, rfl, ⟨_, hT⟩, fun D nD => ?_⟩
        refine lc_tup (K := K) (a := a) (xs := xs) (fun i H2 => Same H0 H2 ∧ H2 D = some (.lst (((t.rs.take i).map rT).map V.str))) ⟨same_new nD, upd_same⟩ (fun i H2 _ hP => SqT.tk (tk_same hP.1) hT) (fun i y H2 hx hP => ?_) (fun H2 hP => ?_)
        · obtain ⟨sm, hD⟩ := hP
          obtain ⟨d, hd, ty⟩ := ts.get hx
          obtain ⟨k, r, hf, rfl⟩ := Rw.ds_at hd
          obtain ⟨b, ys, rfl, hB, tb⟩ := ty.ofTup
          obtain ⟨u1, u2, rfl, t1, t2⟩ := tb.of2
          obtain rfl := t1.ofInt
          obtain ⟨m1, m2, m3, m4⟩ := Rw.mem (List.mem_of_getElem? hf) ok
          have hi : i < t.rs.length := (List.getElem?_eq_some_iff.mp hf).1
          have cn := Rw.cnt t
          refine ⟨b, _, rfl, SqT.tk (tk_same sm) hB, rfl, _, _, rfl, _, _, rfl, rfl, rfl, .int k, rfl, u2, rfl, .bl true, rfl, u2, k, r, rfl, m1, t2.tk (tk_same sm), m2, by omega, by omega, fun H3 sm3 => ⟨_, sm3 _ _ hD, ?_, same_put (sm.trans sm3) nD, ?_⟩⟩
          · rw [List.length_map, List.length_map, List.length_take]
            exact Nat.lt_of_le_of_lt (Nat.min_le_left _ _) (Nat.lt_of_lt_of_le (by omega) (big_le (n := 1000000) (by decide)))
          · rw [upd_same, take_lab hf, List.map_append]
            rfl
        · obtain ⟨sm, hD⟩ := hP
          rw [lx, List.take_length, ← Rw.ts_eq] at hD
          refine ⟨D, _, rfl, .inr (SqL.of hD), ?_⟩
          have lt := Rw.len t
          have l2 : t.ts.length ≤ lenS t.ts := by unfold lenS; omega
          refine ⟨by rw [List.length_cons, List.length_append, List.length_map]; exact big_le (by show _ + 1 + 1 ≤ _; omega), fun L nL => ?_⟩
          refine ⟨_, L, ("[" : Str) :: (t.ts ++ [("]" : Str)]), rfl, rfl, .inl (SqL.of ?_), ?_, q _ (s1.trans (same_put sm (sm.free nL)))⟩
          · rw [upd_same]
            show _ = some (HO.lst (V.str "[" :: (t.ts ++ [("]" : Str)]).map V.str))
            rw [List.map_append]
            rfl
          · have e : (" " : Str).length = 1 := rfl
            rw [e, Nat.mul_one]
            show lenS (("[" : Str) :: (t.ts ++ [("]" : Str)])) ≤ _
            rw [lenS_cons, lenS_app]
            show 1 + 1 + (_ + 2) ≤ _
            omega
      refine ⟨_, (pss_cons (ps_if (pt_not (pt_val (pe_callB call_isi (by rfl) T.isinstance (by decide +kernel) (pa_cons (pv 0) (pa_cons (pe_bltn (v := .ty "tuple") (by rfl) T.tuple (by decide +kernel) rfl) pa_nil)))))
        (pss_one (ps_ret (pe_call d_literal_text.ok (hr.mono (by omega)) (by rfl) d_literal_text.g d_literal_text.kp d_literal_text.b .nil pass0 (pa_cons (pv 0) pa_nil))))
        pss_nil)
      (pss_cons (ps_if (PW.pt (pw_and (pt_cmpR (op_ne0 hr.units0) (pv 0) (pe_tup pa_nil) (nomark _)) (pw_and1 (pt_val (pe_callB call_isi (by rfl) T.isinstance (by decide +kernel) (pa_cons (pe_ix (r := rIxT K) ix_tup (pe_ix (r := rIxT K) ix_tup (pv 0) pe_int (fun _ _ => rfl)) pe_int (fun _ _ => rfl)) (pa_cons (pe_bltn (v := .ty "str") (by rfl) T.str (by decide +kernel) rfl) pa_nil)))))))
        (pss_one (ps_ret (pe_call d_record_text.ok (hr.mono (by omega)) (by rfl) d_record_text.g d_record_text.kp d_record_text.b .nil pass0 (pa_cons (pv 0) (pa_cons (pv 1) pa_nil)))))
        pss_nil)
      S3)), ?_⟩
      refine ⟨.ref a, rfl, .ref a, .ty "tuple", _, _, true, rfl, .ty "tuple", tv.ty, kit_ty kTT, true, rfl, iteF ?_⟩
      refine ⟨.ref a, rfl, by show 0 ≤ sizeLine; decide, fun p np => ?_⟩
      have s1 := same_new (o := .tup []) np
      refine ⟨a, p, _, rfl, rfl, SqT.tk (tk_same s1) hT, SqT.of upd_same, _, rfl, ?_⟩
      cases t with
      | nil =>
        obtain rfl := ts.ofNil
        exact iteF (h3 _ s1)
      | cons k r t =>
        obtain ⟨y, ys, rfl, ty, tys⟩ := ts.ofCons
        obtain ⟨b, zs, rfl, hB, tb⟩ := ty.ofTup
        obtain ⟨u1, u2, rfl, t1, t2⟩ := tb.of2
        obtain rfl := t1.ofInt
        refine iteT ?_
        exact ⟨.ref a, rfl, a, _, 0, .ref b, rfl, rfl, SqT.tk (tk_same s1) hT, atI_nat (j := 0) rfl, b, _, 0, .int k, rfl, rfl, SqT.tk (tk_same s1) hB, rfl, .int k, .ty "str", _, _, false, rfl, .ty "str", .base (.int k), kit_ty kIS, false, rfl, iteF (h3 _ s1)⟩
/-- all three, however deep -/
theorem ok_texts {f1 f2 f3 : Addr} {fd1 fd2 fd3 : FuncData} (F1 : Fun K "worth_text" "worth_text" sWorthT f1 fd1) (F2 : Fun K "row_text" "row_text" sRowT f2 fd2) (F3 : Fun K "record_text" "record_text" sRecT f3 fd3) (T : Bl K mg)
    (g1 : mg "worth_text" = some (.ref f1)) (g2 : mg "row_text" = some (.ref f2)) (g3 : mg "record_text" = some (.ref f3)) (b1 : Binds K fd1 ["worth", "has_serials"] []) (b2 : Binds K fd2 ["serial", "record", "has_serials"] []) (b3 : Binds K fd3 ["record", "has_serials"] [])
    (d_literal_text : DnO P w K mg base "literal_text" 1 ["value"] spLitT) (d_label_text : DnO P w K mg base "label_text" 1 ["label"] spLabT) :
    ∀ n, FnOk P w K mg base CX0 (3 + 3 * n) f3 fd3 ["record", "has_serials"] (spRecT K n)
  | 0 => ok_recT F3 T ⟨f1, fd1, ok_worthT F1 T d_literal_text (fun z => absurd z (by decide)) (fun z => absurd z (by decide)), g1, F1.kp, b1⟩
  | n + 1 => by
    have ih := ok_texts F1 F2 F3 T g1 g2 g3 b1 b2 b3 d_literal_text d_label_text n
    have dr : DnO P w K mg base "record_text" (3 + 3 * n) ["record", "has_serials"] (spRecT K n) := ⟨f3, fd3, ih, g3, F3.kp, b3⟩
    have e : 3 * (n + 1) = 3 + 3 * n := by omega
    have e2 : 1 + 3 * (n + 1) = 4 + 3 * n := by omega
    refine ok_recT F3 T ⟨f1, fd1, ok_worthT F1 T d_literal_text (fun _ => ?_) (fun _ => ?_), g1, F1.kp, b1⟩
    · rw [e]
      exact dr
    · rw [e2]
      exact ⟨f2, fd2, ok_rowT F2 T dr d_label_text, g2, F2.kp, b2⟩
end
end M91

set_option Elab.async false
set_option linter.all false
set_option maxRecDepth 100000
set_option maxHeartbeats 4000000
/-! a starred target -/
namespace M91
open PySem PySem.Spec PyProof.Rows L2 GL
section
variable {prog : Program} {w : World} {A : Around} {E : Value → Shared → Prop} {s : Shared}
theorem star_items {l : Addr} {items : Array Value} {i : Nat} {Q : List Value → Shared → Prop} (hl : IsTup s.heap l items) (hh : A.handled = none) (hi : i ≤ items.size) (hz : items.size ≤ sizeLine)
    (h : ∀ (h' : Heap) (tk : Nat), (∀ b o, s.heap.get? b = some o → h'.get? b = some o) → Q (items.toList.take i ++ [.ref h'.objs.size]) { s with heap := h'.push (seqObj "list" (items.toList.drop i).toArray 0), toks := tk }) : wpAny (model prog w) A (unpackItems (.ref l) (i + 1) (some i)) Q E s := by
  have hlt : l ≠ s.heap.objs.size := by obtain ⟨o, ho, _⟩ := hl; exact Nat.ne_of_lt (Heap.lt_size ho)
  have hll : l < s.heap.objs.size := by obtain ⟨o, ho, _⟩ := hl; exact Heap.lt_size ho
  unfold unpackItems
  refine wpAny_bind ?_
  unfold notIterableAtAll
  refine wpAny_bind (wpAny_specialOf hl.typeIs slot_tuple_iter.lookup ?_)
  refine wpAny_pure ?_
  simp only [Bool.false_eq_true, if_false]
  refine wpAny_bind (wpAny_holding (iter_tuple hl ?_))
  refine wpAny_bind (wpAny_holding (draw_tuple hlt i 0 _ _ ⟨_, Heap.get?_push_size _ rfl, rfl, rfl⟩ (hl.push _) (by omega) fun h₁ hit₁ hs₁ => ?_))
  have hl₁ : IsTup h₁ l items := (hl.push _).extBut hs₁.extBut hlt
  rw [Nat.zero_add] at hit₁
  have hit₁' := hit₁
  obtain ⟨oi, hoi, _⟩ := hit₁'
  have hl₁' := hl₁
  obtain ⟨ol, hol, _⟩ := hl₁'
  rw [List.drop_zero]
  have hfl : (items.toList.take i).length = i := by rw [List.length_take, Array.length_toList]; omega
  rw [if_neg (show ¬ ((items.toList.take i).length < i) by rw [hfl]; omega)]
  refine wpAny_bind (wpAny_holding (PySem.W.kun_collect (s := { s with heap := h₁ }) (T := "tuple_iterator") (.inr (.inr (.inr rfl))) (Walks.tuple (A := A.in1) hh s.heap.objs.size l hlt items) (fun j u st => st.1.typeIs) (k := i) (by omega) ⟨hit₁, hl₁⟩ (Heap.lt_size hoi) (Heap.lt_size hol) (fun h₂ tk hk => ?_) hz))
  have e0 : i + 1 - 1 - i = 0 := by omega
  show wpAny _ _ (if (items.toList.drop i).length < i + 1 - 1 - i then _ else _) _ _ _
  rw [if_neg (by rw [e0]; omega)]
  show wpAny _ _ (newList ((items.toList.drop i).take ((items.toList.drop i).length - (i + 1 - 1 - i))) >>= fun d => pure (items.toList.take i ++ [d] ++ (items.toList.drop i).drop ((items.toList.drop i).length - (i + 1 - 1 - i)))) _ _ _
  rw [e0, Nat.sub_zero, List.take_length, List.drop_length]
  have he : ∀ b o, s.heap.get? b = some o → h₂.get? b = some o := fun b o e => hk b o (Nat.ne_of_lt (Heap.lt_size e)) (hs₁.extBut b o (Nat.ne_of_lt (Heap.lt_size e)) (Heap.get?_push_of_some _ e))
  refine wpAny_bind (wpAny_newObj_type (wpAny_pure ?_) ?_)
  · rw [List.append_nil]
    exact h h₂ tk he
  · show (items.toList.drop i).toArray.size ≤ sizeLine
    rw [List.size_toArray, List.length_drop, Array.length_toList]
    omega
end
section
variable {X : Cx}
/-- (a, .., *c) = a tuple -/
def gStar (K : PySem.W.Frag) (n : Nat) (t : TGs) : TG := fun v σ H Q => ∃ a xs, v = .ref a ∧ SqT K H a xs ∧ n ≤ xs.length ∧ ∀ D, H D = none → t (xs.take n ++ [.ref D]) σ (upd H D (.lst (xs.drop n))) Q
theorem pg_star {es : List Expr} {k : Nat} {t : TGs} {n : Nat} {pos : Pos} (hc : X.calm = true) (h : PGs X es t)
    (hn : (assignEach es X.env).length = n + 1 := by rfl) (hst : (assignEach es X.env).findIdx? (·.1) = some n := by rfl) : PG X (.Tuple es k pos) (gStar X.K n t) := by
  refine ⟨fun pins s σ H v u Q I r hw => ?_⟩
  obtain ⟨a, xs, e1, hq, hl, hw⟩ := hw
  subst e1
  cases r
  obtain ⟨its, rv, ht, hz⟩ := I.tuple hq
  rw [assign_Tuple]
  refine wpAny_bind (wpAny_standAt ?_)
  unfold unpack
  rw [hn, hst]
  have len := rv.length
  refine wpAny_bind (wpAny_holding (star_items ht (I.ok.hd hc) (by rw [List.size_toArray]; omega) (by rw [List.size_toArray]; omega) fun h' tk hk => ?_))
  have I1 : Inv X pins σ H { s with heap := h', toks := tk } := I.kept (t' := tk) hk
  have hD : H h'.objs.size = none := I1.hok.fresh (Nat.le_refl _)
  have I2 : Inv X pins σ (upd H h'.objs.size (.lst (xs.drop n))) { s with heap := h'.push (seqObj "list" (its.toArray.toList.drop n).toArray 0), toks := tk } := by
    refine Inv.laid (t' := tk) (s := { s with heap := h', toks := tk }) I1 (fun b u e => Heap.get?_push_of_some _ e) (Nat.le_refl _) ⟨?_, its.drop n, 0, rv.drop n, Heap.get?_push_size _ rfl⟩
    rw [List.length_drop]
    omega
  refine h.run pins _ σ _ (xs.take n ++ [.ref h'.objs.size]) _ Q I2 ?_ (hw _ hD)
  exact (rv.take n).append (.cons rfl .nil)
/-- the starred one among the targets -/
theorem pgs_starred {e : Expr} {p : Pos} {t : TG} (h1 : PG X e t) (hs : (assignEach [.Starred e p] X.env).map (·.2) = [assign e X.env] := by rfl) : PGs X [.Starred e p] (gCons t gNil) := by
  refine ⟨fun pins s σ H vs us Q I r h => ?_⟩
  obtain ⟨v, vr, e1, h⟩ := h
  subst e1
  cases r with
  | cons r rr =>
    rw [hs]
    refine assignInOrder_cons (thn (h1.run pins s σ H _ _ _ I r h) fun _ s1 ⟨σ1, H1, I1, e, q1⟩ => ?_)
    subst e
    cases rr
    exact assignInOrder_nil ⟨σ1, H1, I1, q1⟩
end
end M91

set_option Elab.async false
set_option linter.all false
set_option maxRecDepth 100000
set_option maxHeartbeats 4000000
/-! the texts of steps and deeds, edits and plans -/
namespace M91
open PySem PySem.Spec PyProof.Rows L2 GL
theorem scST : FnScope ["step", "word", "place", "others", "shown"] ["step"] (defScope sStepT) := ⟨rfl, rfl, rfl, by decide +kernel, rfl, by decide +kernel, by decide +kernel⟩
theorem scDT : FnScope ["deed", "word", "file", "name", "serials", "shown", "serial", "value"] ["deed"] (defScope sDeedT) := ⟨rfl, rfl, rfl, by decide +kernel, rfl, by decide +kernel, by decide +kernel⟩
theorem scSE : FnScope ["edit", "step"] ["edit"] (defScope sShowE) := ⟨rfl, rfl, rfl, by decide +kernel, rfl, by decide +kernel, by decide +kernel⟩
theorem scSPn : FnScope ["plan", "deed"] ["plan"] (defScope sShowP) := ⟨rfl, rfl, rfl, by decide +kernel, rfl, by decide +kernel, by decide +kernel⟩
inductive Stp where
  | set (p : Place) (l : Lit)
  | take (p : Place) (k : Nat)
  | put (p : Place) (i k : Nat) (r : Rc)
  | carry (p : Place) (k : Nat) (q : Place) (i : Nat)
abbrev sh (k : Nat) : Str := "#" ++ nT k
def Stp.d : Stp → PyData
  | .set p l => .tuple [.str "set", placeD p, l.d]
  | .take p k => .tuple [.str "take", placeD p, .int k]
  | .put p i k r => .tuple [.str "put", placeD p, .int i, .int k, .tuple r.ds]
  | .carry p k q i => .tuple [.str "carry", placeD p, .int k, placeD q, .int i]
def Stp.ws : Stp → List Str
  | .set p l => ["set", placeT p, l.t]
  | .take p k => ["take", placeT p, sh k]
  | .put p i k r => ["put", placeT p, nT i, sh k, r.t]
  | .carry p k q i => ["carry", placeT p, sh k, placeT q, nT i]
def Stp.t (s : Stp) : Str := Txt.join " " s.ws
def Stp.ok : Stp → Prop
  | .set p l => Place.ok p ∧ l.ok
  | .take p k => Place.ok p ∧ k < 2 ^ 60
  | .put p i k r => Place.ok p ∧ i < 2 ^ 60 ∧ k < 2 ^ 60 ∧ r.ok ∧ r.h ≤ 41 ∧ r.m ≤ 400000
  | .carry p k q i => Place.ok p ∧ k < 2 ^ 60 ∧ Place.ok q ∧ i < 2 ^ 60
theorem sh_len {k : Nat} (h : k < 2 ^ 60) : (sh k).length ≤ 31 := by
  have := nT_len (k := (k : Nat)) (by simpa using h)
  show ("#" ++ nT k).length ≤ 31
  rw [len_app]
  show 1 + (nT k).length ≤ 31
  omega
theorem Stp.len {s : Stp} (h : s.ok) : lenS s.ws ≤ 420000 := by
  cases s with
  | set p l =>
    have := placeT_len h.1
    have := Lit.len h.2
    show lenS ["set", placeT p, l.t] ≤ _
    rw [lenS_cons, lenS_cons, lenS_cons]
    show 3 + 1 + (_ + (_ + 0)) ≤ _
    omega
  | take p k =>
    have := placeT_len h.1
    have := sh_len h.2
    show lenS ["take", placeT p, sh k] ≤ _
    rw [lenS_cons, lenS_cons, lenS_cons]
    show 4 + 1 + (_ + (_ + 0)) ≤ _
    omega
  | put p i k r =>
    obtain ⟨h1, h2, h3, h4, h5, h6⟩ := h
    have := placeT_len h1
    have := sh_len h3
    have := nT_len (k := (i : Nat)) (by simpa using h2)
    have := Rc.t_len r
    show lenS ["put", placeT p, nT i, sh k, r.t] ≤ _
    rw [lenS_cons, lenS_cons, lenS_cons, lenS_cons, lenS_cons]
    show 3 + 1 + (_ + (_ + (_ + (_ + 0)))) ≤ _
    omega
  | carry p k q i =>
    obtain ⟨h1, h2, h3, h4⟩ := h
    have := placeT_len h1
    have := placeT_len h3
    have := sh_len h2
    have := nT_len (k := (i : Nat)) (by simpa using h4)
    show lenS ["carry", placeT p, sh k, placeT q, nT i] ≤ _
    rw [lenS_cons, lenS_cons, lenS_cons, lenS_cons, lenS_cons]
    show 5 + 1 + (_ + (_ + (_ + (_ + 0)))) ≤ _
    omega
theorem sum_le {ys : List Str} {n : Nat} (h : lenS ys ≤ n) (hn : n ≤ 16777216) : (ys.map (·.length)).sum + ys.length * (" " : Str).length ≤ 16777216 := by
  have e : (" " : Str).length = 1 := rfl
  rw [e, Nat.mul_one]
  unfold lenS at h
  omega
section
variable {P : Program} {w : World} {K : PySem.W.Frag} {mg : Str → Option Value} {base : Heap}
def spStepT (K : PySem.W.Frag) : Sp := fun vs H Q _ => ∃ (v : V) (x : Stp), vs = [v] ∧ TV K H v x.d ∧ x.ok ∧ ∀ H', Same H H' → Q (.str x.t) H'
theorem ok_stepT {f : Addr} {fd : FuncData} (F : Fun K "step_text" "step_text" sStepT f fd) (T : Bl K mg) (d_literal_text : DnO P w K mg base "literal_text" 1 ["value"] spLitT) (d_label_text : DnO P w K mg base "label_text" 1 ["label"] spLabT)
    (d_place_text : DnO P w K mg base "place_text" 3 ["place"] (spPlaceT K)) (d_record_text : DnO P w K mg base "record_text" 126 ["record", "has_serials"] (spRecT K 41)) : FnOk P w K mg base CX0 127 f fd ["step"] (spStepT K) := by
  refine F.ok scST (fun vs H Q E h => ?_) (fun cdv A outer s H vs Q E hr h => ?_)
  · obtain ⟨v, p, rfl, _⟩ := h
    rfl
  · obtain ⟨v, x, rfl, tv, ok, q⟩ := h
    refine ⟨_, (pss_cons (ps_asg (pv 0) (pg_star rfl (pgs_cons (pg_name (i := 1) scST.nd rfl (Or.inl rfl)) (pgs_cons (pg_name (i := 2) scST.nd rfl (Or.inl rfl)) (pgs_starred (pg_name (i := 3) scST.nd rfl (Or.inl rfl)))))))
      (pss_cons (ps_if (pt_cmpR op_eq (pv 1) (pe_glob (v := .str "set") (by rfl) T.cset.choose_spec ⟨_, rfl⟩) (nomark _))
        (pss_one (ps_set (i := 4) scST.nd rfl (Or.inl rfl) (pe_lst (pa_cons (pe_call d_literal_text.ok (hr.mono (by omega)) (by rfl) d_literal_text.g d_literal_text.kp d_literal_text.b .nil pass0 (pa_cons (pe_ix (r := rIxL K) ix_list (pv 3) pe_int (fun _ _ => rfl)) pa_nil)) pa_nil))))
        (pss_one (ps_if (pt_cmpR op_eq (pv 1) (pe_glob (v := .str "take") (by rfl) T.ctake.choose_spec ⟨_, rfl⟩) (nomark _))
          (pss_one (ps_set (i := 4) scST.nd rfl (Or.inl rfl) (pe_lst (pa_cons (pe_call d_label_text.ok (hr.mono (by omega)) (by rfl) d_label_text.g d_label_text.kp d_label_text.b .nil pass0 (pa_cons (pe_ix (r := rIxL K) ix_list (pv 3) pe_int (fun _ _ => rfl)) pa_nil)) pa_nil))))
          (pss_one (ps_if (pt_cmpR op_eq (pv 1) (pe_glob (v := .str "put") (by rfl) T.cput.choose_spec ⟨_, rfl⟩) (nomark _))
            (pss_one (ps_set (i := 4) scST.nd rfl (Or.inl rfl) (pe_lst (pa_cons (pe_callTy call_str_int (by rfl) T.str (by decide +kernel) (pa_cons (pe_ix (r := rIxL K) ix_list (pv 3) pe_int (fun _ _ => rfl)) pa_nil)) (pa_cons (pe_call d_label_text.ok (hr.mono (by omega)) (by rfl) d_label_text.g d_label_text.kp d_label_text.b .nil pass0 (pa_cons (pe_ix (r := rIxL K) ix_list (pv 3) pe_int (fun _ _ => rfl)) pa_nil)) (pa_cons (pe_call d_record_text.ok (hr.mono (by omega)) (by rfl) d_record_text.g d_record_text.kp d_record_text.b .nil pass0 (pa_cons (pe_ix (r := rIxL K) ix_list (pv 3) pe_int (fun _ _ => rfl)) (pa_cons pe_bl pa_nil))) pa_nil))))))
            (pss_one (ps_set (i := 4) scST.nd rfl (Or.inl rfl) (pe_lst (pa_cons (pe_call d_label_text.ok (hr.mono (by omega)) (by rfl) d_label_text.g d_label_text.kp d_label_text.b .nil pass0 (pa_cons (pe_ix (r := rIxL K) ix_list (pv 3) pe_int (fun _ _ => rfl)) pa_nil)) (pa_cons (pe_call d_place_text.ok (hr.mono (by omega)) (by rfl) d_place_text.g d_place_text.kp d_place_text.b .nil pass0 (pa_cons (pe_ix (r := rIxL K) ix_list (pv 3) pe_int (fun _ _ => rfl)) pa_nil)) (pa_cons (pe_callTy call_str_int (by rfl) T.str (by decide +kernel) (pa_cons (pe_ix (r := rIxL K) ix_list (pv 3) pe_int (fun _ _ => rfl)) pa_nil)) pa_nil)))))))))))
      (pss_one (ps_ret (pe_join (pe_glob (v := .str " ") (by rfl) T.cblank.choose_spec ⟨_, rfl⟩) (pe_lst (pa_cons (pv 1) (pa_cons (pe_call d_place_text.ok (hr.mono (by omega)) (by rfl) d_place_text.g d_place_text.kp d_place_text.b .nil pass0 (pa_cons (pv 2) pa_nil)) (StX.pa_star (pv 4) pa_nil))))))))), ?_⟩
    have hlen := Stp.len ok
    cases x with
    | set p l =>
      obtain ⟨a, xs, rfl, hT, ts⟩ := tv.ofTup
      obtain ⟨u1, u2, u3, rfl, t1, t2, t3⟩ := ts.of3
      obtain rfl := t1.ofStr
      have hv : u3 = l.v := by
        cases l with
        | s x => exact t3.ofStr
        | i n => exact t3.ofInt
      subst hv
      refine ⟨.ref a, rfl, a, _, rfl, hT, by show 2 ≤ 3; decide, fun D nD => ⟨_, _, rfl, _, _, rfl, _, _, rfl, rfl, ?_⟩⟩
      have s1 := same_new (o := .lst [l.v]) nD
      refine ⟨.str "set", rfl, rfl, _, rfl, iteT ?_⟩
      refine ⟨.ref D, rfl, D, _, 0, l.v, rfl, rfl, SqL.of upd_same, rfl, l, rfl, ok.2, by show 1 ≤ sizeLine; decide, fun L nL => ?_⟩
      refine ⟨⟨_, rfl⟩, .str "set", rfl, u2, rfl, u2, p, rfl, t2.tk (tk_same (s1.trans (same_new nL))), ok.1, fun H2 sm => ?_⟩
      refine ⟨.ref L, rfl, L, _, rfl, .inr (SqL.of (sm _ _ upd_same)), by show 3 ≤ sizeLine; decide, fun M nM => ?_⟩
      exact ⟨_, M, ["set", placeT p, l.t], rfl, rfl, .inl (SqL.of upd_same), sum_le hlen (by decide), q _ ((s1.trans (same_new nL)).trans (same_put sm (sm.free nM)))⟩
    | take p k =>
      obtain ⟨a, xs, rfl, hT, ts⟩ := tv.ofTup
      obtain ⟨u1, u2, u3, rfl, t1, t2, t3⟩ := ts.of3
      obtain rfl := t1.ofStr
      obtain rfl := t3.ofInt
      refine ⟨.ref a, rfl, a, _, rfl, hT, by show 2 ≤ 3; decide, fun D nD => ⟨_, _, rfl, _, _, rfl, _, _, rfl, rfl, ?_⟩⟩
      have s1 := same_new (o := .lst [.int k]) nD
      refine ⟨.str "take", rfl, rfl, _, rfl, iteF ?_⟩
      refine ⟨.str "take", rfl, rfl, _, rfl, iteT ?_⟩
      refine ⟨.ref D, rfl, D, _, 0, .int k, rfl, rfl, SqL.of upd_same, rfl, .n k, rfl, ok.2, by show 1 ≤ sizeLine; decide, fun L nL => ?_⟩
      refine ⟨⟨_, rfl⟩, .str "take", rfl, u2, rfl, u2, p, rfl, t2.tk (tk_same (s1.trans (same_new nL))), ok.1, fun H2 sm => ?_⟩
      refine ⟨.ref L, rfl, L, _, rfl, .inr (SqL.of (sm _ _ upd_same)), by show 3 ≤ sizeLine; decide, fun M nM => ?_⟩
      exact ⟨_, M, ["take", placeT p, sh k], rfl, rfl, .inl (SqL.of upd_same), sum_le hlen (by decide), q _ ((s1.trans (same_new nL)).trans (same_put sm (sm.free nM)))⟩
    | put p i k r =>
      obtain ⟨o1, o2, o3, o4, o5, o6⟩ := ok
      obtain ⟨a, xs, rfl, hT, ts⟩ := tv.ofTup
      obtain ⟨u1, ys, rfl, t1, ts⟩ := ts.ofCons
      obtain ⟨u2, ys, rfl, t2, ts⟩ := ts.ofCons
      obtain ⟨u3, u4, u5, rfl, t3, t4, t5⟩ := ts.of3
      obtain rfl := t1.ofStr
      obtain rfl := t3.ofInt
      obtain rfl := t4.ofInt
      refine ⟨.ref a, rfl, a, _, rfl, hT, by show 2 ≤ 5; decide, fun D nD => ⟨_, _, rfl, _, _, rfl, _, _, rfl, rfl, ?_⟩⟩
      have s1 := same_new (o := .lst [.int i, .int k, u5]) nD
      refine ⟨.str "put", rfl, rfl, _, rfl, iteF ?_⟩
      refine ⟨.str "put", rfl, rfl, _, rfl, iteF ?_⟩
      refine ⟨.str "put", rfl, rfl, _, rfl, iteT ?_⟩
      refine ⟨.ref D, rfl, D, _, 0, .int i, rfl, rfl, SqL.of upd_same, rfl, (i : Int), rfl, log_le (by simpa using o2), .ref D, rfl, D, _, 1, .int k, rfl, rfl, SqL.of upd_same, rfl, .n k, rfl, o3, .ref D, rfl, D, _, 2, u5, rfl, rfl, SqL.of upd_same, rfl, u5, r, rfl, t5.tk (tk_same s1), o4, o5, by omega, fun H1 sm1 => ⟨by show 3 ≤ sizeLine; decide, fun L nL => ?_⟩⟩
      have s2 := s1.trans (same_put sm1 (sm1.free nL) (o := .lst [.str (nT i), .str (sh k), .str r.t]))
      refine ⟨⟨_, rfl⟩, .str "put", rfl, u2, rfl, u2, p, rfl, t2.tk (tk_same s2), o1, fun H2 sm => ?_⟩
      refine ⟨.ref L, rfl, L, _, rfl, .inr (SqL.of (sm _ _ upd_same)), by show 5 ≤ sizeLine; decide, fun M nM => ?_⟩
      exact ⟨_, M, ["put", placeT p, nT i, sh k, r.t], rfl, rfl, .inl (SqL.of upd_same), sum_le hlen (by decide), q _ (s2.trans (same_put sm (sm.free nM)))⟩
    | carry p k z i =>
      obtain ⟨o1, o2, o3, o4⟩ := ok
      obtain ⟨a, xs, rfl, hT, ts⟩ := tv.ofTup
      obtain ⟨u1, ys, rfl, t1, ts⟩ := ts.ofCons
      obtain ⟨u2, ys, rfl, t2, ts⟩ := ts.ofCons
      obtain ⟨u3, u4, u5, rfl, t3, t4, t5⟩ := ts.of3
      obtain rfl := t1.ofStr
      obtain rfl := t3.ofInt
      obtain rfl := t5.ofInt
      refine ⟨.ref a, rfl, a, _, rfl, hT, by show 2 ≤ 5; decide, fun D nD => ⟨_, _, rfl, _, _, rfl, _, _, rfl, rfl, ?_⟩⟩
      have s1 := same_new (o := .lst [.int k, u4, .int i]) nD
      refine ⟨.str "carry", rfl, rfl, _, rfl, iteF ?_⟩
      refine ⟨.str "carry", rfl, rfl, _, rfl, iteF ?_⟩
      refine ⟨.str "carry", rfl, rfl, _, rfl, iteF ?_⟩
      refine ⟨.ref D, rfl, D, _, 0, .int k, rfl, rfl, SqL.of upd_same, rfl, .n k, rfl, o2, .ref D, rfl, D, _, 1, u4, rfl, rfl, SqL.of upd_same, rfl, u4, z, rfl, t4.tk (tk_same s1), o3, fun H1 sm1 => ?_⟩
      refine ⟨.ref D, rfl, D, _, 2, .int i, rfl, rfl, SqL.of (sm1 _ _ upd_same), rfl, (i : Int), rfl, log_le (by simpa using o4), by show 3 ≤ sizeLine; decide, fun L nL => ?_⟩
      have s2 := s1.trans (same_put sm1 (sm1.free nL) (o := .lst [.str (sh k), .str (placeT z), .str (nT i)]))
      refine ⟨⟨_, rfl⟩, .str "carry", rfl, u2, rfl, u2, p, rfl, t2.tk (tk_same s2), o1, fun H2 sm => ?_⟩
      refine ⟨.ref L, rfl, L, _, rfl, .inr (SqL.of (sm _ _ upd_same)), by show 5 ≤ sizeLine; decide, fun M nM => ?_⟩
      exact ⟨_, M, ["carry", placeT p, sh k, placeT z, nT i], rfl, rfl, .inl (SqL.of upd_same), sum_le hlen (by decide), q _ (s2.trans (same_put sm (sm.free nM)))⟩
end
end M91

set_option Elab.async false
set_option linter.all false
set_option maxRecDepth 100000
set_option maxHeartbeats 4000000
/-! the texts of deeds, edits and plans -/
namespace M91
open PySem PySem.Spec PyProof.Rows L2 GL
inductive Dd where
  | set (s : Spot) (l : Lit)
  | gone (s : Spot)
  | order (f n : Str) (ks : List Nat)
def intD (k : Nat) : PyData := .int k
def intV (k : Nat) : V := .int k
def Dd.d : Dd → PyData
  | .set s l => .tuple [.str "set", s.d, l.d]
  | .gone s => .tuple [.str "gone", s.d]
  | .order f n ks => .tuple [.str "order", .str f, .str n, .tuple (ks.map intD)]
def ksT (ks : List Nat) : List Str := if ks.isEmpty then ["-"] else ks.map sh
def Dd.ws : Dd → List Str
  | .set s l => ["set", s.t, l.t]
  | .gone s => ["gone", s.t]
  | .order f n ks => "order" :: (f ++ "/" ++ n) :: ksT ks
def Dd.t (x : Dd) : Str := Txt.join " " x.ws
def Dd.ok : Dd → Prop
  | .set s l => s.ok ∧ l.ok
  | .gone s => s.ok
  | .order f n ks => f.length ≤ 60 ∧ n.length ≤ 60 ∧ ks.length ≤ 1000 ∧ ∀ k ∈ ks, k < 2 ^ 60
theorem ks_len : ∀ ks : List Nat, (∀ k ∈ ks, k < 2 ^ 60) → lenS (ks.map sh) ≤ 40 * ks.length
  | [], _ => Nat.le_refl _
  | k :: r, h => by
    have := ks_len r fun x hx => h x (List.mem_cons_of_mem _ hx)
    have := sh_len (h k (List.mem_cons_self ..))
    rw [List.map_cons, lenS_cons, List.length_cons]
    omega
theorem Dd.len {s : Dd} (h : s.ok) : lenS s.ws ≤ 420000 := by
  cases s with
  | set p l =>
    have := Spot.len h.1
    have := Lit.len h.2
    show lenS ["set", p.t, l.t] ≤ _
    rw [lenS_cons, lenS_cons, lenS_cons]
    show 3 + 1 + (_ + (_ + 0)) ≤ _
    omega
  | gone p =>
    have := Spot.len h
    show lenS ["gone", p.t] ≤ _
    rw [lenS_cons, lenS_cons]
    show 4 + 1 + (_ + 0) ≤ _
    omega
  | order f n ks =>
    obtain ⟨h1, h2, h3, h4⟩ := h
    have h5 := ks_len ks h4
    have h6 : lenS (ksT ks) ≤ 40 * ks.length + 2 := by
      unfold ksT
      split
      · show 2 ≤ _
        omega
      · omega
    show lenS ("order" :: (f ++ "/" ++ n) :: ksT ks) ≤ _
    rw [lenS_cons, lenS_cons, len_app, len_app]
    show 5 + 1 + (_ + 1 + _ + 1 + _) ≤ _
    omega
theorem kst_le (ks : List Nat) : (ksT ks).length ≤ ks.length + 1 := by
  unfold ksT
  split
  · exact Nat.le_add_left _ _
  · rw [List.length_map]
    omega
section
variable {P : Program} {w : World} {K : PySem.W.Frag} {mg : Str → Option Value} {base : Heap}
theorem TVs.ints {H : Hp} : ∀ {ks : List Nat} {vs : List V}, TVs K H vs (ks.map intD) → vs = ks.map intV
  | [], _, h => h.ofNil
  | k :: r, _, h => by
    obtain ⟨v, t, rfl, h1, h2⟩ := h.ofCons
    obtain rfl := h1.ofInt
    rw [TVs.ints h2]
    rfl
theorem ints_tv {H : Hp} : ∀ p : List Nat, TVs K H (p.map intV) (p.map intD)
  | [] => .nil
  | k :: r => .cons (.int k) (ints_tv r)
theorem map_at {α : Type} {f : α → V} {p : List α} {i : Nat} {x : V} (h : (p.map f)[i]? = some x) : ∃ l, p[i]? = some l ∧ x = f l := by
  rw [List.getElem?_map] at h
  cases e : p[i]? with
  | none =>
    rw [e] at h
    cases h
  | some l =>
    rw [e] at h
    exact ⟨l, rfl, (Option.some.inj h).symm⟩
def spDeedT (K : PySem.W.Frag) : Sp := fun vs H Q _ => ∃ (v : V) (x : Dd), vs = [v] ∧ TV K H v x.d ∧ x.ok ∧ ∀ H', Same H H' → Q (.str x.t) H'
theorem ok_deedT {f : Addr} {fd : FuncData} (F : Fun K "deed_text" "deed_text" sDeedT f fd) (T : Bl K mg) (d_literal_text : DnO P w K mg base "literal_text" 1 ["value"] spLitT) (d_label_text : DnO P w K mg base "label_text" 1 ["label"] spLabT)
    (d_spot_text : DnO P w K mg base "spot_text" 3 ["spot"] (spSpotT K)) : FnOk P w K mg base CX0 4 f fd ["deed"] (spDeedT K) := by
  refine F.ok scDT (fun vs H Q E h => ?_) (fun cdv A outer s H vs Q E hr h => ?_)
  · obtain ⟨v, p, rfl, _⟩ := h
    rfl
  · obtain ⟨v, x, rfl, tv, ok, q⟩ := h
    refine ⟨_, (pss_cons (ps_if (pt_cmpR op_eq (pe_ix (r := rIxT K) ix_tup (pv 0) pe_int (fun _ _ => rfl)) (pe_glob (v := .str "order") (by rfl) T.corder.choose_spec ⟨_, rfl⟩) (nomark _))
        (pss_cons (ps_asg (pv 0) (pg_tup rfl (pgs_cons (pg_name (i := 1) scDT.nd rfl (Or.inl rfl)) (pgs_cons (pg_name (i := 2) scDT.nd rfl (Or.inl rfl)) (pgs_cons (pg_name (i := 3) scDT.nd rfl (Or.inl rfl)) (pgs_cons (pg_name (i := 4) scDT.nd rfl (Or.inl rfl)) pgs_nil))))))
        (pss_cons (ps_set (i := 5) scDT.nd rfl (Or.inl rfl) (pe_ifExp (pt_cmpR (op_ne0 hr.units0) (pv 4) (pe_tup pa_nil) (nomark _)) (pe_lc (own := [("serial", 6)]) (g := gName 6) (by rfl) scDT.nd (pi_tup (pv 4)) (blkOk_by (own := [("serial", 6)]) (N := ["deed", "word", "file", "name", "serials", "shown", "serial", "value"]) (sc := defScope sDeedT) (by decide +kernel)) (fun _ _ _ _ _ => (pg_name (i := 6) scDT.nd rfl (Or.inl rfl))) (fun _ _ _ _ _ => pts_nil) (fun _ _ _ _ _ => (pe_call d_label_text.ok (hr.mono (by omega)) (by rfl) d_label_text.g d_label_text.kp d_label_text.b .nil pass0 (pa_cons (pv 6) pa_nil)))) (pe_lst (pa_cons (pe_glob (v := .str "-") (by rfl) T.cnothing.choose_spec ⟨_, rfl⟩) pa_nil))))
        (pss_one (ps_ret (pe_join (pe_glob (v := .str " ") (by rfl) T.cblank.choose_spec ⟨_, rfl⟩) (pe_lst (pa_cons (pv 1) (pa_cons (pe_op op_add_str (pe_op op_add_str (pv 2) (pe_glob (v := .str "/") (by rfl) T.cslash.choose_spec ⟨_, rfl⟩)) (pv 3)) (StX.pa_star (pv 5) pa_nil)))))))))
        pss_nil)
      (pss_one (ps_ret (pe_join (pe_glob (v := .str " ") (by rfl) T.cblank.choose_spec ⟨_, rfl⟩) (pe_lst (pa_cons (pe_ix (r := rIxT K) ix_tup (pv 0) pe_int (fun _ _ => rfl)) (pa_cons (pe_call d_spot_text.ok (hr.mono (by omega)) (by rfl) d_spot_text.g d_spot_text.kp d_spot_text.b .nil pass0 (pa_cons (pe_ix (r := rIxT K) ix_tup (pv 0) pe_int (fun _ _ => rfl)) pa_nil)) (StX.pa_star (pe_lc (own := [("value", 7)]) (g := gName 7) (by rfl) scDT.nd (pi_tup (pe_slice (r := rSlA K) sl_tupA (pv 0) (po_some pe_int) po_none)) (blkOk_by (own := [("value", 7)]) (N := ["deed", "word", "file", "name", "serials", "shown", "serial", "value"]) (sc := defScope sDeedT) (by decide +kernel)) (fun _ _ _ _ _ => (pg_name (i := 7) scDT.nd rfl (Or.inl rfl))) (fun _ _ _ _ _ => pts_nil) (fun _ _ _ _ _ => (pe_call d_literal_text.ok (hr.mono (by omega)) (by rfl) d_literal_text.g d_literal_text.kp d_literal_text.b .nil pass0 (pa_cons (pv 7) pa_nil)))) pa_nil)))))))), ?_⟩
    have hlen := Dd.len ok
    cases x with
    | set p l =>
      obtain ⟨a, xs, rfl, hT, ts⟩ := tv.ofTup
      obtain ⟨u1, u2, u3, rfl, t1, t2, t3⟩ := ts.of3
      obtain rfl := t1.ofStr
      have hv : u3 = l.v := by
        cases l with
        | s x => exact t3.ofStr
        | i n => exact t3.ofInt
      subst hv
      refine ⟨.ref a, rfl, a, _, 0, .str "set", rfl, rfl, hT, rfl, rfl, _, rfl, iteF ?_⟩
      refine ⟨⟨_, rfl⟩, .ref a, rfl, a, _, 0, .str "set", rfl, rfl, hT, rfl, .ref a, rfl, a, _, 1, u2, rfl, rfl, hT, rfl, u2, p, rfl, t2, ok.1, fun H1 s1 => ?_⟩
      have hT1 := SqT.tk (tk_same s1) hT
      refine ⟨.ref a, rfl, 2, rfl, a, _, rfl, hT1, fun z => absurd z.1 (show ¬ HT.sIx 3 0 (some 2) = 0 by decide), fun _ p2 np2 => ?_⟩
      refine ⟨p2, rfl, ⟨_, SqT.of upd_same⟩, fun D nD => ?_⟩
      have s2 := s1.trans (same_new (o := .tup [l.v]) np2)
      refine lc_tup (K := K) (a := p2) (xs := [l.v]) (fun i H2 => Same (upd H1 p2 (.tup [l.v])) H2 ∧ H2 D = some (.lst ((([l].take i).map Lit.t).map V.str))) ⟨same_new nD, upd_same⟩ (fun i H2 _ hP => SqT.of (hP.1 _ _ upd_same)) (fun i x H2 hx hP => ?_) (fun H2 hP => ?_)
      · obtain ⟨sm, hD⟩ := hP
        obtain ⟨l2, hl2, rfl⟩ := map_at (f := Lit.v) (p := [l]) hx
        have : l2 ∈ [l] := List.mem_of_getElem? hl2
        obtain rfl := List.mem_singleton.mp this
        refine ⟨rfl, l2.v, rfl, l2, rfl, ok.2, _, hD, ?_, same_put sm nD, ?_⟩
        · rw [List.length_map, List.length_map, List.length_take]
          exact Nat.lt_of_le_of_lt (Nat.min_le_right _ _) (show 1 < sizeLine by decide)
        · rw [upd_same, take_lab hl2, List.map_append]
          rfl
      · obtain ⟨sm, hD⟩ := hP
        refine ⟨D, _, rfl, .inr (SqL.of hD), by show 3 ≤ sizeLine; decide, fun M nM => ?_⟩
        exact ⟨_, M, ["set", p.t, l.t], rfl, rfl, .inl (SqL.of upd_same), sum_le hlen (by decide), q _ (s2.trans (same_put sm (sm.free nM)))⟩
    | gone p =>
      obtain ⟨a, xs, rfl, hT, ts⟩ := tv.ofTup
      obtain ⟨u1, u2, rfl, t1, t2⟩ := ts.of2
      obtain rfl := t1.ofStr
      refine ⟨.ref a, rfl, a, _, 0, .str "gone", rfl, rfl, hT, rfl, rfl, _, rfl, iteF ?_⟩
      refine ⟨⟨_, rfl⟩, .ref a, rfl, a, _, 0, .str "gone", rfl, rfl, hT, rfl, .ref a, rfl, a, _, 1, u2, rfl, rfl, hT, rfl, u2, p, rfl, t2, ok, fun H1 s1 => ?_⟩
      have hT1 := SqT.tk (tk_same s1) hT
      refine ⟨.ref a, rfl, 2, rfl, a, _, rfl, hT1, fun z => absurd z.1 (show ¬ HT.sIx 2 0 (some 2) = 0 by decide), fun _ p2 np2 => ?_⟩
      refine ⟨p2, rfl, ⟨_, SqT.of upd_same⟩, fun D nD => ?_⟩
      have s2 := s1.trans (same_new (o := .tup []) np2)
      refine lc_tup (K := K) (a := p2) (xs := []) (fun i H2 => Same (upd H1 p2 (.tup [])) H2 ∧ H2 D = some (.lst [])) ⟨same_new nD, upd_same⟩ (fun i H2 _ hP => SqT.of (hP.1 _ _ upd_same)) (fun i x H2 hx hP => ?_) (fun H2 hP => ?_)
      · simp at hx
      · obtain ⟨sm, hD⟩ := hP
        refine ⟨D, _, rfl, .inr (SqL.of hD), by show 2 ≤ sizeLine; decide, fun M nM => ?_⟩
        exact ⟨_, M, ["gone", p.t], rfl, rfl, .inl (SqL.of upd_same), sum_le hlen (by decide), q _ (s2.trans (same_put sm (sm.free nM)))⟩
    | order x n ks =>
      obtain ⟨o1, o2, o3, o4⟩ := ok
      obtain ⟨a, xs, rfl, hT, ts⟩ := tv.ofTup
      obtain ⟨u1, ys, rfl, t1, ts⟩ := ts.ofCons
      obtain ⟨u2, u3, u4, rfl, t2, t3, t4⟩ := ts.of3
      obtain rfl := t1.ofStr
      obtain rfl := t2.ofStr
      obtain rfl := t3.ofStr
      obtain ⟨b, zs, rfl, hB, tb⟩ := t4.ofTup
      obtain rfl := tb.ints
      refine ⟨.ref a, rfl, a, _, 0, .str "order", rfl, rfl, hT, rfl, rfl, _, rfl, iteT ?_⟩
      refine ⟨.ref a, rfl, a, _, rfl, hT, rfl, _, _, rfl, _, _, rfl, _, _, rfl, _, _, rfl, rfl, ?_⟩
      dsimp only
      refine asg_any (R := fun v H1 => Same H H1 ∧ ∃ L, v = .ref L ∧ H1 L = some (.lst ((ksT ks).map V.str))) (fun Q' q' => ?_) (fun v H1 hv => ?_)
      · refine ⟨.ref b, rfl, by show 0 ≤ sizeLine; decide, fun p np => ?_⟩
        have s1 := same_new (o := .tup []) np
        refine ⟨b, p, _, rfl, rfl, SqT.tk (tk_same s1) hB, SqT.of upd_same, _, rfl, ?_⟩
        cases ks with
        | nil => exact iteF ⟨by show 1 ≤ sizeLine; decide, fun L nL => q' _ _ ⟨s1.trans (same_new nL), L, rfl, upd_same⟩⟩
        | cons k r =>
          refine iteT ?_
          have hB1 := SqT.tk (tk_same s1) hB
          refine ⟨.ref b, rfl, b, rfl, ⟨_, hB1⟩, fun D nD => ?_⟩
          refine lc_tup (K := K) (a := b) (xs := (k :: r).map intV) (fun i H2 => Same (upd H p (.tup [])) H2 ∧ H2 D = some (.lst ((((k :: r).take i).map sh).map V.str))) ⟨same_new nD, upd_same⟩ (fun i H2 _ hP => SqT.tk (tk_same hP.1) hB1) (fun i x H2 hx hP => ?_) (fun H2 hP => ?_)
          · obtain ⟨sm, hD⟩ := hP
            obtain ⟨k2, hk2, rfl⟩ := map_at hx
            have hi := (List.getElem?_eq_some_iff.mp hk2).1
            refine ⟨rfl, intV k2, rfl, .n k2, rfl, o4 k2 (List.mem_of_getElem? hk2), _, hD, ?_, same_put sm nD, ?_⟩
            · rw [List.length_map, List.length_map, List.length_take]
              exact Nat.lt_of_le_of_lt (Nat.min_le_left _ _) (Nat.lt_of_lt_of_le (by omega) (big_le (n := 1000000) (by decide)))
            · rw [upd_same, take_lab hk2, List.map_append]
              rfl
          · obtain ⟨sm, hD⟩ := hP
            rw [List.length_map, List.take_length] at hD
            exact q' _ _ ⟨s1.trans sm, D, rfl, hD⟩
      · obtain ⟨s1, L, rfl, hL⟩ := hv
        have kl := kst_le ks
        refine ⟨⟨_, rfl⟩, .str "order", rfl, .str x, rfl, x, _, rfl, rfl, big_le (by show x.length + 1 ≤ _; omega), .str n, rfl, _, n, rfl, rfl, big_le (by rw [len_app]; show x.length + 1 + n.length ≤ _; omega), .ref L, rfl, L, _, rfl, .inr (SqL.of hL), ?_, fun M nM => ?_⟩
        · rw [List.append_nil, List.length_cons, List.length_cons, List.length_map]
          exact big_le (by omega)
        · refine ⟨_, M, "order" :: (x ++ "/" ++ n) :: ksT ks, rfl, rfl, .inl (SqL.of ?_), sum_le hlen (by decide), q _ (same_put s1 (s1.free nM))⟩
          rw [upd_same, List.append_nil]
          rfl
end
end M91

set_option Elab.async false
set_option linter.all false
set_option maxRecDepth 100000
set_option maxHeartbeats 4000000
/-! the texts of edits and plans; the law's own texts -/
namespace M91
open PySem PySem.Spec PyProof.Rows L2 GL
theorem scl1 : FnScope ["_law_value"] ["_law_value"] (defScope sLLit) := ⟨rfl, rfl, rfl, by decide +kernel, rfl, by decide +kernel, by decide +kernel⟩
theorem scl2 : FnScope ["_law_path", "_law_part"] ["_law_path"] (defScope sLPath) := ⟨rfl, rfl, rfl, by decide +kernel, rfl, by decide +kernel, by decide +kernel⟩
theorem scl3 : FnScope ["_law_place"] ["_law_place"] (defScope sLPlace) := ⟨rfl, rfl, rfl, by decide +kernel, rfl, by decide +kernel, by decide +kernel⟩
theorem scl7 : FnScope ["_law_made_of", "_law_step"] ["_law_made_of"] (defScope sLEdit) := ⟨rfl, rfl, rfl, by decide +kernel, rfl, by decide +kernel, by decide +kernel⟩
theorem scl9 : FnScope ["_law_made_of", "_law_deed"] ["_law_made_of"] (defScope sLPlan) := ⟨rfl, rfl, rfl, by decide +kernel, rfl, by decide +kernel, by decide +kernel⟩
def eT (e : List Stp) : Str := if e.isEmpty then "-" else Txt.join "; " (e.map Stp.t)
def pT (e : List Dd) : Str := if e.isEmpty then "-" else Txt.join "; " (e.map Dd.t)
theorem mapd_at {α : Type} {f : α → PyData} {p : List α} {i : Nat} {x : PyData} (h : (p.map f)[i]? = some x) : ∃ l, p[i]? = some l ∧ x = f l := by
  rw [List.getElem?_map] at h
  cases e : p[i]? with
  | none =>
    rw [e] at h
    cases h
  | some l =>
    rw [e] at h
    exact ⟨l, rfl, (Option.some.inj h).symm⟩
theorem Stp.tlen {x : Stp} (h : x.ok) : x.t.length ≤ 420000 := Nat.le_trans (join1_le _) (Stp.len h)
theorem Dd.tlen {x : Dd} (h : x.ok) : x.t.length ≤ 420000 := Nat.le_trans (join1_le _) (Dd.len h)
theorem eT_sum : ∀ e : List Stp, (∀ x ∈ e, x.ok) → ((e.map Stp.t).map (·.length)).sum ≤ 420000 * e.length
  | [], _ => Nat.le_refl _
  | l :: r, h => by
    have := eT_sum r fun x hx => h x (List.mem_cons_of_mem _ hx)
    have := Stp.tlen (h l (List.mem_cons_self ..))
    rw [List.map_cons, List.map_cons, List.sum_cons, List.length_cons]
    omega
theorem pT_sum : ∀ e : List Dd, (∀ x ∈ e, x.ok) → ((e.map Dd.t).map (·.length)).sum ≤ 420000 * e.length
  | [], _ => Nat.le_refl _
  | l :: r, h => by
    have := pT_sum r fun x hx => h x (List.mem_cons_of_mem _ hx)
    have := Dd.tlen (h l (List.mem_cons_self ..))
    rw [List.map_cons, List.map_cons, List.sum_cons, List.length_cons]
    omega
section
variable {P : Program} {w : World} {K : PySem.W.Frag} {mg : Str → Option Value} {base : Heap}

def spShowE (K : PySem.W.Frag) : Sp := fun vs H Q _ => ∃ (v : V) (e : List Stp), vs = [v] ∧ TV K H v (.tuple (e.map Stp.d)) ∧ e.length ≤ 30 ∧ (∀ x ∈ e, x.ok) ∧ ∀ H', Same H H' → Q (.str (eT e)) H'

def spShowP (K : PySem.W.Frag) : Sp := fun vs H Q _ => ∃ (v : V) (e : List Dd), vs = [v] ∧ TV K H v (.tuple (e.map Dd.d)) ∧ e.length ≤ 30 ∧ (∀ x ∈ e, x.ok) ∧ ∀ H', Same H H' → Q (.str (pT e)) H'
theorem ok_showE {f : Addr} {fd : FuncData} (F : Fun K "show_edit" "show_edit" sShowE f fd) (T : Bl K mg) (d_step_text : DnO P w K mg base "step_text" 127 ["step"] (spStepT K)) : FnOk P w K mg base CX0 128 f fd ["edit"] (spShowE K) := by
  refine F.ok scSE (fun vs H Q E h => ?_) (fun cdv A outer s H vs Q E hr h => ?_)
  · obtain ⟨v, p, rfl, _⟩ := h
    rfl
  · obtain ⟨v, e, rfl, tv, l30, ok, q⟩ := h
    obtain ⟨a, xs, rfl, hT, ts⟩ := tv.ofTup
    have lx : xs.length = e.length := by rw [ts.length, List.length_map]
    refine ⟨_, (pss_one (ps_ret (pe_ifExp (pt_cmpR (op_ne0 hr.units0) (pv 0) (pe_tup pa_nil) (nomark _)) (pe_join (pe_glob (v := .str "; ") (by rfl) T.cbetween.choose_spec ⟨_, rfl⟩) (pe_lc (own := [("step", 1)]) (g := gName 1) (by rfl) scSE.nd (pi_tup (pv 0)) (blkOk_by (own := [("step", 1)]) (N := ["edit", "step"]) (sc := defScope sShowE) (by decide +kernel)) (fun _ _ _ _ _ => (pg_name (i := 1) scSE.nd rfl (Or.inl rfl))) (fun _ _ _ _ _ => pts_nil) (fun _ _ _ _ _ => (pe_call d_step_text.ok (hr.mono (by omega)) (by rfl) d_step_text.g d_step_text.kp d_step_text.b .nil pass0 (pa_cons (pv 1) pa_nil))))) (pe_glob (v := .str "-") (by rfl) T.cnothing.choose_spec ⟨_, rfl⟩)))), ?_⟩
    refine ⟨.ref a, rfl, by show 0 ≤ sizeLine; decide, fun p np => ?_⟩
    have s1 := same_new (o := .tup []) np
    have hT1 := SqT.tk (tk_same s1) hT
    refine ⟨a, p, _, rfl, rfl, hT1, SqT.of upd_same, _, rfl, ?_⟩
    cases e with
    | nil =>
      obtain rfl := ts.ofNil
      exact iteF (q _ s1)
    | cons y ys =>
      obtain ⟨z, zs, rfl, tz, tzs⟩ := ts.ofCons
      refine iteT ?_
      refine ⟨⟨_, rfl⟩, .ref a, rfl, a, rfl, ⟨_, hT1⟩, fun D nD => ?_⟩
      refine lc_tup (K := K) (a := a) (xs := z :: zs) (fun i H2 => Same (upd H p (.tup [])) H2 ∧ H2 D = some (.lst ((((y :: ys).take i).map Stp.t).map V.str))) ⟨same_new nD, upd_same⟩ (fun i H2 _ hP => SqT.tk (tk_same hP.1) hT1) (fun i x H2 hx hP => ?_) (fun H2 hP => ?_)
      · obtain ⟨sm, hD⟩ := hP
        obtain ⟨d, hd, tx⟩ := ts.get hx
        obtain ⟨x', hx', rfl⟩ := mapd_at hd
        have hi := (List.getElem?_eq_some_iff.mp hx').1
        refine ⟨rfl, x, rfl, x, x', rfl, tx.tk (tk_same (s1.trans sm)), ok x' (List.mem_of_getElem? hx'), fun H3 sm3 => ⟨_, sm3 _ _ hD, ?_, same_put (sm.trans sm3) nD, ?_⟩⟩
        · rw [List.length_map, List.length_map, List.length_take]
          exact Nat.lt_of_le_of_lt (Nat.min_le_left _ _) (Nat.lt_of_lt_of_le (by omega) (big_le (n := 1000000) (by decide)))
        · rw [upd_same, take_lab hx', List.map_append]
          rfl
      · obtain ⟨sm, hD⟩ := hP
        rw [lx, List.take_length] at hD
        refine ⟨_, D, _, rfl, rfl, .inl (SqL.of hD), ?_, q _ (s1.trans sm)⟩
        have h1 := eT_sum (y :: ys) ok
        have e2 : ("; " : Str).length = 2 := rfl
        rw [List.length_map, e2]
        omega
theorem ok_showP {f : Addr} {fd : FuncData} (F : Fun K "show_plan" "show_plan" sShowP f fd) (T : Bl K mg) (d_deed_text : DnO P w K mg base "deed_text" 4 ["deed"] (spDeedT K)) : FnOk P w K mg base CX0 5 f fd ["plan"] (spShowP K) := by
  refine F.ok scSPn (fun vs H Q E h => ?_) (fun cdv A outer s H vs Q E hr h => ?_)
  · obtain ⟨v, p, rfl, _⟩ := h
    rfl
  · obtain ⟨v, e, rfl, tv, l30, ok, q⟩ := h
    obtain ⟨a, xs, rfl, hT, ts⟩ := tv.ofTup
    have lx : xs.length = e.length := by rw [ts.length, List.length_map]
    refine ⟨_, (pss_one (ps_ret (pe_ifExp (pt_cmpR (op_ne0 hr.units0) (pv 0) (pe_tup pa_nil) (nomark _)) (pe_join (pe_glob (v := .str "; ") (by rfl) T.cbetween.choose_spec ⟨_, rfl⟩) (pe_lc (own := [("deed", 1)]) (g := gName 1) (by rfl) scSPn.nd (pi_tup (pv 0)) (blkOk_by (own := [("deed", 1)]) (N := ["plan", "deed"]) (sc := defScope sShowP) (by decide +kernel)) (fun _ _ _ _ _ => (pg_name (i := 1) scSPn.nd rfl (Or.inl rfl))) (fun _ _ _ _ _ => pts_nil) (fun _ _ _ _ _ => (pe_call d_deed_text.ok (hr.mono (by omega)) (by rfl) d_deed_text.g d_deed_text.kp d_deed_text.b .nil pass0 (pa_cons (pv 1) pa_nil))))) (pe_glob (v := .str "-") (by rfl) T.cnothing.choose_spec ⟨_, rfl⟩)))), ?_⟩
    refine ⟨.ref a, rfl, by show 0 ≤ sizeLine; decide, fun p np => ?_⟩
    have s1 := same_new (o := .tup []) np
    have hT1 := SqT.tk (tk_same s1) hT
    refine ⟨a, p, _, rfl, rfl, hT1, SqT.of upd_same, _, rfl, ?_⟩
    cases e with
    | nil =>
      obtain rfl := ts.ofNil
      exact iteF (q _ s1)
    | cons y ys =>
      obtain ⟨z, zs, rfl, tz, tzs⟩ := ts.ofCons
      refine iteT ?_
      refine ⟨⟨_, rfl⟩, .ref a, rfl, a, rfl, ⟨_, hT1⟩, fun D nD => ?_⟩
      refine lc_tup (K := K) (a := a) (xs := z :: zs) (fun i H2 => Same (upd H p (.tup [])) H2 ∧ H2 D = some (.lst ((((y :: ys).take i).map Dd.t).map V.str))) ⟨same_new nD, upd_same⟩ (fun i H2 _ hP => SqT.tk (tk_same hP.1) hT1) (fun i x H2 hx hP => ?_) (fun H2 hP => ?_)
      · obtain ⟨sm, hD⟩ := hP
        obtain ⟨d, hd, tx⟩ := ts.get hx
        obtain ⟨x', hx', rfl⟩ := mapd_at hd
        have hi := (List.getElem?_eq_some_iff.mp hx').1
        refine ⟨rfl, x, rfl, x, x', rfl, tx.tk (tk_same (s1.trans sm)), ok x' (List.mem_of_getElem? hx'), fun H3 sm3 => ⟨_, sm3 _ _ hD, ?_, same_put (sm.trans sm3) nD, ?_⟩⟩
        · rw [List.length_map, List.length_map, List.length_take]
          exact Nat.lt_of_le_of_lt (Nat.min_le_left _ _) (Nat.lt_of_lt_of_le (by omega) (big_le (n := 1000000) (by decide)))
        · rw [upd_same, take_lab hx', List.map_append]
          rfl
      · obtain ⟨sm, hD⟩ := hP
        rw [lx, List.take_length] at hD
        refine ⟨_, D, _, rfl, rfl, .inl (SqL.of hD), ?_, q _ (s1.trans sm)⟩
        have h1 := pT_sum (y :: ys) ok
        have e2 : ("; " : Str).length = 2 := rfl
        rw [List.length_map, e2]
        omega
theorem ok_lEdit {f : Addr} {fd : FuncData} (F : Fun K "_law_edit_text" "_law_edit_text" sLEdit f fd) (T : Bl K mg) (d_law_step_text : DnO P w K mg base "_law_step_text" 127 ["_law_step"] (spStepT K)) : FnOk P w K mg base CX0 128 f fd ["_law_made_of"] (spShowE K) := by
  refine F.ok scl7 (fun vs H Q E h => ?_) (fun cdv A outer s H vs Q E hr h => ?_)
  · obtain ⟨v, p, rfl, _⟩ := h
    rfl
  · obtain ⟨v, e, rfl, tv, l30, ok, q⟩ := h
    obtain ⟨a, xs, rfl, hT, ts⟩ := tv.ofTup
    have lx : xs.length = e.length := by rw [ts.length, List.length_map]
    refine ⟨_, (pss_one (ps_ret (pe_ifExp (pt_cmpR (op_ne0 hr.units0) (pv 0) (pe_tup pa_nil) (nomark _)) (pe_join pe_str (pe_lc (own := [("_law_step", 1)]) (g := gName 1) (by rfl) scl7.nd (pi_tup (pv 0)) (blkOk_by (own := [("_law_step", 1)]) (N := ["_law_made_of", "_law_step"]) (sc := defScope sLEdit) (by decide +kernel)) (fun _ _ _ _ _ => (pg_name (i := 1) scl7.nd rfl (Or.inl rfl))) (fun _ _ _ _ _ => pts_nil) (fun _ _ _ _ _ => (pe_call d_law_step_text.ok (hr.mono (by omega)) (by rfl) d_law_step_text.g d_law_step_text.kp d_law_step_text.b .nil pass0 (pa_cons (pv 1) pa_nil))))) pe_str))), ?_⟩
    refine ⟨.ref a, rfl, by show 0 ≤ sizeLine; decide, fun p np => ?_⟩
    have s1 := same_new (o := .tup []) np
    have hT1 := SqT.tk (tk_same s1) hT
    refine ⟨a, p, _, rfl, rfl, hT1, SqT.of upd_same, _, rfl, ?_⟩
    cases e with
    | nil =>
      obtain rfl := ts.ofNil
      exact iteF (q _ s1)
    | cons y ys =>
      obtain ⟨z, zs, rfl, tz, tzs⟩ := ts.ofCons
      refine iteT ?_
      refine ⟨⟨_, rfl⟩, .ref a, rfl, a, rfl, ⟨_, hT1⟩, fun D nD => ?_⟩
      refine lc_tup (K := K) (a := a) (xs := z :: zs) (fun i H2 => Same (upd H p (.tup [])) H2 ∧ H2 D = some (.lst ((((y :: ys).take i).map Stp.t).map V.str))) ⟨same_new nD, upd_same⟩ (fun i H2 _ hP => SqT.tk (tk_same hP.1) hT1) (fun i x H2 hx hP => ?_) (fun H2 hP => ?_)
      · obtain ⟨sm, hD⟩ := hP
        obtain ⟨d, hd, tx⟩ := ts.get hx
        obtain ⟨x', hx', rfl⟩ := mapd_at hd
        have hi := (List.getElem?_eq_some_iff.mp hx').1
        refine ⟨rfl, x, rfl, x, x', rfl, tx.tk (tk_same (s1.trans sm)), ok x' (List.mem_of_getElem? hx'), fun H3 sm3 => ⟨_, sm3 _ _ hD, ?_, same_put (sm.trans sm3) nD, ?_⟩⟩
        · rw [List.length_map, List.length_map, List.length_take]
          exact Nat.lt_of_le_of_lt (Nat.min_le_left _ _) (Nat.lt_of_lt_of_le (by omega) (big_le (n := 1000000) (by decide)))
        · rw [upd_same, take_lab hx', List.map_append]
          rfl
      · obtain ⟨sm, hD⟩ := hP
        rw [lx, List.take_length] at hD
        refine ⟨_, D, _, rfl, rfl, .inl (SqL.of hD), ?_, q _ (s1.trans sm)⟩
        have h1 := eT_sum (y :: ys) ok
        have e2 : ("; " : Str).length = 2 := rfl
        rw [List.length_map, e2]
        omega
theorem ok_lPlan {f : Addr} {fd : FuncData} (F : Fun K "_law_plan_text" "_law_plan_text" sLPlan f fd) (T : Bl K mg) (d_law_deed_text : DnO P w K mg base "_law_deed_text" 4 ["_law_deed"] (spDeedT K)) : FnOk P w K mg base CX0 5 f fd ["_law_made_of"] (spShowP K) := by
  refine F.ok scl9 (fun vs H Q E h => ?_) (fun cdv A outer s H vs Q E hr h => ?_)
  · obtain ⟨v, p, rfl, _⟩ := h
    rfl
  · obtain ⟨v, e, rfl, tv, l30, ok, q⟩ := h
    obtain ⟨a, xs, rfl, hT, ts⟩ := tv.ofTup
    have lx : xs.length = e.length := by rw [ts.length, List.length_map]
    refine ⟨_, (pss_one (ps_ret (pe_ifExp (pt_cmpR (op_ne0 hr.units0) (pv 0) (pe_tup pa_nil) (nomark _)) (pe_join pe_str (pe_lc (own := [("_law_deed", 1)]) (g := gName 1) (by rfl) scl9.nd (pi_tup (pv 0)) (blkOk_by (own := [("_law_deed", 1)]) (N := ["_law_made_of", "_law_deed"]) (sc := defScope sLPlan) (by decide +kernel)) (fun _ _ _ _ _ => (pg_name (i := 1) scl9.nd rfl (Or.inl rfl))) (fun _ _ _ _ _ => pts_nil) (fun _ _ _ _ _ => (pe_call d_law_deed_text.ok (hr.mono (by omega)) (by rfl) d_law_deed_text.g d_law_deed_text.kp d_law_deed_text.b .nil pass0 (pa_cons (pv 1) pa_nil))))) pe_str))), ?_⟩
    refine ⟨.ref a, rfl, by show 0 ≤ sizeLine; decide, fun p np => ?_⟩
    have s1 := same_new (o := .tup []) np
    have hT1 := SqT.tk (tk_same s1) hT
    refine ⟨a, p, _, rfl, rfl, hT1, SqT.of upd_same, _, rfl, ?_⟩
    cases e with
    | nil =>
      obtain rfl := ts.ofNil
      exact iteF (q _ s1)
    | cons y ys =>
      obtain ⟨z, zs, rfl, tz, tzs⟩ := ts.ofCons
      refine iteT ?_
      refine ⟨⟨_, rfl⟩, .ref a, rfl, a, rfl, ⟨_, hT1⟩, fun D nD => ?_⟩
      refine lc_tup (K := K) (a := a) (xs := z :: zs) (fun i H2 => Same (upd H p (.tup [])) H2 ∧ H2 D = some (.lst ((((y :: ys).take i).map Dd.t).map V.str))) ⟨same_new nD, upd_same⟩ (fun i H2 _ hP => SqT.tk (tk_same hP.1) hT1) (fun i x H2 hx hP => ?_) (fun H2 hP => ?_)
      · obtain ⟨sm, hD⟩ := hP
        obtain ⟨d, hd, tx⟩ := ts.get hx
        obtain ⟨x', hx', rfl⟩ := mapd_at hd
        have hi := (List.getElem?_eq_some_iff.mp hx').1
        refine ⟨rfl, x, rfl, x, x', rfl, tx.tk (tk_same (s1.trans sm)), ok x' (List.mem_of_getElem? hx'), fun H3 sm3 => ⟨_, sm3 _ _ hD, ?_, same_put (sm.trans sm3) nD, ?_⟩⟩
        · rw [List.length_map, List.length_map, List.length_take]
          exact Nat.lt_of_le_of_lt (Nat.min_le_left _ _) (Nat.lt_of_lt_of_le (by omega) (big_le (n := 1000000) (by decide)))
        · rw [upd_same, take_lab hx', List.map_append]
          rfl
      · obtain ⟨sm, hD⟩ := hP
        rw [lx, List.take_length] at hD
        refine ⟨_, D, _, rfl, rfl, .inl (SqL.of hD), ?_, q _ (s1.trans sm)⟩
        have h1 := pT_sum (y :: ys) ok
        have e2 : ("; " : Str).length = 2 := rfl
        rw [List.length_map, e2]
        omega
theorem ok_lLit {f : Addr} {fd : FuncData} (F : Fun K "_law_lit_text" "_law_lit_text" sLLit f fd) (T : Bl K mg) : FnOk P w K mg base CX0 1 f fd ["_law_value"] spLitT := by
  refine F.ok scl1 (fun vs H Q E h => ?_) (fun cdv A outer s H vs Q E hr h => ?_)
  · obtain ⟨l, rfl, _⟩ := h
    rfl
  · obtain ⟨l, rfl, ok, q⟩ := h
    refine ⟨_, (pss_one (ps_ret (pe_ifExp (pt_val (pe_callB call_isi (by rfl) T.isinstance (by decide +kernel) (pa_cons (pv 0) (pa_cons (pe_bltn (v := .ty "str") (by rfl) T.str (by decide +kernel) rfl) pa_nil)))) (pe_op op_add_str (pe_op op_add_str pe_str (pv 0)) pe_str) (pe_callTy call_str_int (by rfl) T.str (by decide +kernel) (pa_cons (pv 0) pa_nil))))), ?_⟩
    cases l with
    | s x =>
      have hx : x.length ≤ 60 := ok
      refine ⟨.str x, rfl, .str x, .ty "str", _, _, true, rfl, .ty "str", .base (.str x), kit_ty kSS, true, rfl, iteT ?_⟩
      refine ⟨.str x, rfl, _, x, rfl, rfl, big_le (by show 1 + x.length ≤ _; omega), _, _, rfl, rfl, big_le (by rw [len_app]; show 1 + x.length + 1 ≤ _; omega), q⟩
    | i n =>
      refine ⟨.int n, rfl, .int n, .ty "str", _, _, false, rfl, .ty "str", .base (.int n), kit_ty kIS, false, rfl, iteF ?_⟩
      exact ⟨.int n, rfl, n, rfl, log_le ok, q⟩
theorem ok_lPath {f : Addr} {fd : FuncData} (F : Fun K "_law_path_text" "_law_path_text" sLPath f fd) (T : Bl K mg) : FnOk P w K mg base CX0 2 f fd ["_law_path"] (spPathT K) := by
  refine F.ok scl2 (fun vs H Q E h => ?_) (fun cdv A outer s H vs Q E hr h => ?_)
  · obtain ⟨v, p, rfl, _⟩ := h
    rfl
  · obtain ⟨v, p, rfl, tv, ok, q⟩ := h
    obtain ⟨a, xs, rfl, hT, ts⟩ := tv.ofTup
    obtain rfl := ts.labs
    refine ⟨_, (pss_one (ps_ret (pe_join pe_str (pe_lc (own := [("_law_part", 1)]) (g := gName 1) (by rfl) scl2.nd (pi_tup (pv 0)) (blkOk_by (own := [("_law_part", 1)]) (N := ["_law_path", "_law_part"]) (sc := defScope sLPath) (by decide +kernel)) (fun _ _ _ _ _ => (pg_name (i := 1) scl2.nd rfl (Or.inl rfl))) (fun _ _ _ _ _ => pts_nil) (fun _ _ _ _ _ => (pe_ifExp (pt_val (pe_callB (r := rIsi K) call_isi (by rfl) T.isinstance (by decide +kernel) (pa_cons (pv 1) (pa_cons (pe_bltn (v := .ty "str") (by rfl) T.str (by decide +kernel) rfl) pa_nil)))) (pv 1) (pe_op op_add_str pe_str (pe_callTy call_str_int (by rfl) T.str (by decide +kernel) (pa_cons (pv 1) pa_nil))))))))), ?_⟩
    refine ⟨⟨_, rfl⟩, .ref a, rfl, a, rfl, ⟨_, hT⟩, fun D nD => ?_⟩
    refine lc_tup (K := K) (a := a) (xs := p.map Lab.v) (fun i H2 => Same H H2 ∧ H2 D = some (.lst (((p.take i).map Lab.t).map V.str))) ⟨same_new nD, upd_same⟩ (fun i H2 _ hP => SqT.tk (tk_same hP.1) hT) (fun i x H2 hx hP => ?_) (fun H2 hP => ?_)
    · obtain ⟨sm, hD⟩ := hP
      obtain ⟨l, hl, rfl⟩ := lab_at hx
      have hi : i < p.length := (List.getElem?_eq_some_iff.mp hl).1
      have okl := ok.2 l (List.mem_of_getElem? hl)
      have fin : ∃ acc, H2 D = some (.lst acc) ∧ acc.length < sizeLine ∧ (Same H (upd H2 D (.lst (acc ++ [.str l.t]))) ∧ upd H2 D (.lst (acc ++ [.str l.t])) D = some (.lst (((p.take (i + 1)).map Lab.t).map V.str))) := by
        refine ⟨_, hD, ?_, same_put sm nD, ?_⟩
        · rw [List.length_map, List.length_map, List.length_take]
          have := ok.1
          exact Nat.lt_of_le_of_lt (Nat.min_le_left _ _) (Nat.lt_of_lt_of_le (by omega) (big_le (n := 1000) (by decide)))
        · rw [upd_same, take_lab hl, List.map_append]
          rfl
      cases l with
      | w x => exact ⟨rfl, .str x, rfl, .str x, .ty "str", _, _, true, rfl, .ty "str", .base (.str x), kit_ty kSS, true, rfl, iteT ⟨.str x, rfl, fin⟩⟩
      | n k =>
        have hk : k < 2 ^ 60 := okl
        have := nT_len (k := k) (by simpa using hk)
        exact ⟨rfl, .int k, rfl, .int k, .ty "str", _, _, false, rfl, .ty "str", .base (.int k), kit_ty kIS, false, rfl, iteF ⟨.int k, rfl, k, rfl, log_le (by simpa using hk), _, _, rfl, rfl, big_le (by show 1 + (nT k).length ≤ _; omega), fin⟩⟩
    · obtain ⟨sm, hD⟩ := hP
      rw [List.length_map, List.take_length] at hD
      have h2 := path_sum p ok.2
      have h3 := ok.1
      refine ⟨_, D, _, rfl, rfl, .inl (SqL.of hD), ?_, q H2 sm⟩
      have e : ("." : Str).length = 1 := rfl
      rw [List.length_map]
      show _ + p.length * 1 ≤ _
      omega
theorem ok_lPlace {f : Addr} {fd : FuncData} (F : Fun K "_law_place_text" "_law_place_text" sLPlace f fd) (T : Bl K mg) (d_law_path_text : DnO P w K mg base "_law_path_text" 2 ["_law_path"] (spPathT K)) : FnOk P w K mg base CX0 3 f fd ["_law_place"] (spPlaceT K) := by
  refine F.ok scl3 (fun vs H Q E h => ?_) (fun cdv A outer s H vs Q E hr h => ?_)
  · obtain ⟨v, p, rfl, _⟩ := h
    rfl
  · obtain ⟨v, ⟨x, p⟩, rfl, tv, ok, q⟩ := h
    obtain ⟨a, xs, rfl, hT, ts⟩ := tv.ofTup
    obtain ⟨u1, u2, rfl, t1, t2⟩ := ts.of2
    obtain rfl := t1.ofStr
    refine ⟨_, (pss_one (ps_ret (pe_op op_add_str (pe_op op_add_str (pe_ix (r := rIxT K) ix_tup (pv 0) pe_int (fun _ _ => rfl)) pe_str) (pe_call d_law_path_text.ok (hr.mono (by omega)) (by rfl) d_law_path_text.g d_law_path_text.kp d_law_path_text.b .nil pass0 (pa_cons (pe_ix (r := rIxT K) ix_tup (pv 0) pe_int (fun _ _ => rfl)) pa_nil))))), ?_⟩
    have hx : x.length ≤ 60 := ok.1
    have hp := pathT_len (p := p) ok.2
    refine ⟨.ref a, rfl, a, _, 0, .str x, rfl, rfl, hT, rfl, x, _, rfl, rfl, big_le (by show x.length + 1 ≤ _; omega), .ref a, rfl, a, _, 1, u2, rfl, rfl, hT, rfl, u2, p, rfl, t2, ok.2, fun H' sm => ?_⟩
    refine ⟨_, _, rfl, rfl, big_le ?_, q H' sm⟩
    rw [len_app]
    show x.length + 1 + _ ≤ _
    omega
end
end M91

set_option Elab.async false
set_option linter.all false
set_option maxRecDepth 100000
set_option maxHeartbeats 4000000
/-! == and != of lists of texts -/
namespace M91
open PySem PySem.Spec PyProof.Rows L2 GL
theorem all_eqS : ∀ (xs ys : List Str), xs.length = ys.length → ((List.range xs.length).all fun j => xs.getD j "" == ys.getD j "") = decide (xs = ys)
  | [], [], _ => rfl
  | x :: xs, y :: ys, h => by
    have ih := all_eqS xs ys (by simpa using h)
    rw [List.length_cons, List.range_succ_eq_map, List.all_cons, List.all_map]
    have e : ((fun j => (x :: xs).getD j "" == (y :: ys).getD j "") ∘ Nat.succ) = fun j => xs.getD j "" == ys.getD j "" := rfl
    rw [e, ih]
    show (x == y && decide (xs = ys)) = decide (x :: xs = y :: ys)
    by_cases h1 : x = y
    · subst h1
      simp
    · simp [h1]
  | [], _ :: _, h => by simp at h
  | _ :: _, [], h => by simp at h
section
variable {X : Cx}
theorem vals_strs {xs : List Str} {us : List Value} (r : Vals (xs.map V.str) us) (j : Nat) (h : j < us.length) : ∃ t, us[j] = .str (xs.getD j "") t := by
  have hl := r.length
  rw [List.length_map] at hl
  obtain ⟨u, e1, t, e2⟩ := r.get (i := j) (x := .str xs[j]) (by simp [hl ▸ h])
  have e3 := (List.getElem?_eq_some_iff.mp e1).2
  refine ⟨t, ?_⟩
  rw [e3, e2]
  simp [List.getD, hl ▸ h]
def rEqS (K : PySem.W.Frag) (k : Bool → Bool) : V → V → Hp → VK → Prop := fun x y H Q => ∃ (a b : Addr) (xs ys : List Str), x = .ref a ∧ y = .ref b ∧ SqL K H a (xs.map V.str) ∧ SqL K H b (ys.map V.str) ∧ Q (.bl (k (decide (xs = ys)))) H
theorem op_neS (hu : X.A.units < cLine) : OpR X (compareOp .NotEq) (rEqS X.K (!·)) := by
  intro pins s σ H x y v u Q I rx ry h
  obtain ⟨a, b, xs, ys, rfl, rfl, h1, h2, q⟩ := h
  cases rx
  cases ry
  obtain ⟨its, r, pl, _⟩ := I.list h1
  obtain ⟨jts, r2, pl2, _⟩ := I.list h2
  have l1 := r.length
  have l2 := r2.length
  rw [List.length_map] at l1 l2
  by_cases hl : its.length = jts.length
  · refine SeqAt.RcNeAt.lists (A := X.A) (s := s) (e := fun j => xs.getD j "" == ys.getD j "") pl.isList pl2.isList (by simpa using hl) hu (fun j g1 g2 => ?_) X.prog X.w X.xe (EP X pins σ Q) ?_
    · obtain ⟨t1, e1⟩ := vals_strs r j (by simpa using g1)
      obtain ⟨t2, e2⟩ := vals_strs r2 j (by simpa using g2)
      have f1 : its.toArray[j] = its[j]'(by simpa using g1) := by simp
      have f2 : jts.toArray[j] = jts[j]'(by simpa using g2) := by simp
      rw [f1, f2, e1, e2]
      exact SeqAt.EqAt.str_str _ _ _ _
    · refine ⟨.bl _, H, I, ?_, q⟩
      show Value.bool _ = Value.bool _
      congr 2
      rw [List.size_toArray, ← l1]
      exact all_eqS xs ys (by omega)
  · refine SeqAt.RcNeAt.lists_lengths (A := X.A) (s := s) pl.isList pl2.isList (by simpa using hl) hu X.prog X.w X.xe (EP X pins σ Q) ?_
    refine ⟨.bl _, H, I, ?_, q⟩
    have : xs ≠ ys := fun e => hl (by rw [← l1, ← l2, e])
    show Value.bool true = Value.bool _
    rw [decide_eq_false this]
    rfl
theorem op_eqS (hu : X.A.units < cLine) : OpR X (compareOp .Eq) (rEqS X.K id) := by
  intro pins s σ H x y v u Q I rx ry h
  obtain ⟨a, b, xs, ys, rfl, rfl, h1, h2, q⟩ := h
  cases rx
  cases ry
  obtain ⟨its, r, pl, _⟩ := I.list h1
  obtain ⟨jts, r2, pl2, _⟩ := I.list h2
  have l1 := r.length
  have l2 := r2.length
  rw [List.length_map] at l1 l2
  by_cases hl : its.length = jts.length
  · refine SeqAt.RcAt.lists (A := X.A) (s := s) (e := fun j => xs.getD j "" == ys.getD j "") pl.isList pl2.isList (by simpa using hl) hu (fun j g1 g2 => ?_) X.prog X.w X.xe (EP X pins σ Q) ?_
    · obtain ⟨t1, e1⟩ := vals_strs r j (by simpa using g1)
      obtain ⟨t2, e2⟩ := vals_strs r2 j (by simpa using g2)
      have f1 : its.toArray[j] = its[j]'(by simpa using g1) := by simp
      have f2 : jts.toArray[j] = jts[j]'(by simpa using g2) := by simp
      rw [f1, f2, e1, e2]
      exact SeqAt.EqAt.str_str _ _ _ _
    · refine ⟨.bl _, H, I, ?_, q⟩
      show Value.bool _ = Value.bool _
      congr 1
      rw [List.size_toArray, ← l1]
      exact all_eqS xs ys (by omega)
  · refine SeqAt.RcAt.lists_lengths (A := X.A) (s := s) pl.isList pl2.isList (by simpa using hl) hu X.prog X.w X.xe (EP X pins σ Q) ?_
    refine ⟨.bl _, H, I, ?_, q⟩
    have : xs ≠ ys := fun e => hl (by rw [← l1, ← l2, e])
    show Value.bool false = Value.bool _
    rw [decide_eq_false this]
    rfl
end
end M91

set_option Elab.async false
set_option linter.all false
set_option maxRecDepth 100000
set_option maxHeartbeats 4000000
/-! the law's own texts of records -/
namespace M91
open PySem PySem.Spec PyProof.Rows L2 GL
theorem scl4 : FnScope ["_law_value", "_law_has_serials", "_law_found", "_law_serial", "_law_one"] ["_law_value", "_law_has_serials"] (defScope sLWorth) := ⟨rfl, rfl, rfl, by decide +kernel, rfl, by decide +kernel, by decide +kernel⟩
theorem scl5 : FnScope ["_law_record_here", "_law_has_serials", "_law_name_here", "_law_value"] ["_law_record_here", "_law_has_serials"] (defScope sLRec) := ⟨rfl, rfl, rfl, by decide +kernel, rfl, by decide +kernel, by decide +kernel⟩
/-! ### texts as lists of codes -/
abbrev cs (x : Str) : List Nat := x.cps.toList
theorem str_ext {x y : Str} (h : cs x = cs y) : x = y := by
  obtain ⟨⟨a⟩⟩ := x
  obtain ⟨⟨b⟩⟩ := y
  have h : a = b := h
  rw [h]
theorem cs_app (x y : Str) : cs (x ++ y) = cs x ++ cs y := by
  show (x.cps ++ y.cps).toList = _
  rw [Array.toList_append]
/-- joined -/
def jn (s : List Nat) : List (List Nat) → List Nat
  | [] => []
  | [x] => x
  | x :: y :: r => x ++ s ++ jn s (y :: r)
theorem cs_join (s : Str) : ∀ ys : List Str, cs (Txt.join s ys) = jn (cs s) (ys.map cs) := fun ys => by
  have e : Txt.join s ys = Str.join s ys := StrLaws.glued_eq_join s ys
  rw [e]
  induction ys with
  | nil => rfl
  | cons x r ih =>
    cases r with
    | nil => rfl
    | cons y r =>
      show cs ((x ++ s) ++ Str.join s (y :: r)) = cs x ++ cs s ++ jn (cs s) ((y :: r).map cs)
      rw [cs_app, cs_app, ← ih (StrLaws.glued_eq_join s (y :: r))]
theorem jn_cons (s x : List Nat) {r : List (List Nat)} (h : r ≠ []) : jn s (x :: r) = x ++ s ++ jn s r := by
  cases r with
  | nil => exact absurd rfl h
  | cons y r => rfl
theorem jn_two (s a b : List Nat) : ∀ (pre post : List (List Nat)), jn s (pre ++ (a ++ s ++ b) :: post) = jn s (pre ++ a :: b :: post)
  | [], [] => rfl
  | [], y :: r => by
    show (a ++ s ++ b) ++ s ++ jn s (y :: r) = a ++ s ++ (b ++ s ++ jn s (y :: r))
    simp [List.append_assoc]
  | x :: pre, post => by
    rw [List.cons_append, List.cons_append, jn_cons s x (by simp), jn_cons s x (by simp), jn_two s a b pre post]
/-- rows, each in two -/
def Rw.fl : Rw → List Str
  | .nil => []
  | .cons k r t => sh k :: r.t :: t.fl
theorem rw_two : ∀ (t : Rw) (pre : List (List Nat)) (post : List (List Nat)), jn [32] (pre ++ t.ts.map cs ++ post) = jn [32] (pre ++ t.fl.map cs ++ post)
  | .nil, _, _ => rfl
  | .cons k r t, pre, post => by
    have e : (Rw.cons k r t).ts.map cs = (cs (sh k) ++ [32] ++ cs r.t) :: t.ts.map cs := by
      show cs ("#" ++ nT k ++ " " ++ r.t) :: t.ts.map cs = _
      rw [cs_app, cs_app]
      rfl
    have e2 : (Rw.cons k r t).fl.map cs = cs (sh k) :: cs r.t :: t.fl.map cs := rfl
    rw [e, e2, List.append_assoc, List.cons_append, jn_two, List.append_assoc]
    have := rw_two t (pre ++ [cs (sh k), cs r.t]) post
    simpa [List.append_assoc] using this
theorem rw_lined (t : Rw) : Txt.join " " (("[" : Str) :: (t.fl ++ [("]" : Str)])) = lined "[" t.ts "]" := by
  apply str_ext
  unfold lined
  rw [cs_join, cs_join, List.map_cons, List.map_cons, List.map_append, List.map_append]
  exact (rw_two t [cs "["] [cs "]"]).symm
def flS (l : List (Nat × Rc)) : List Str := (l.map fun x => [sh x.1, x.2.t]).flatten
theorem Rw.fl_eq : ∀ t : Rw, t.fl = flS t.rs
  | .nil => rfl
  | .cons k r t => by
    show sh k :: r.t :: t.fl = _
    rw [Rw.fl_eq t]
    rfl
theorem flS_take {l : List (Nat × Rc)} {i : Nat} {x : Nat × Rc} (h : l[i]? = some x) : flS (l.take (i + 1)) = flS (l.take i) ++ [sh x.1, x.2.t] := by
  unfold flS
  rw [List.take_add_one, h, List.map_append, List.flatten_append]
  rfl
theorem flS_len (l : List (Nat × Rc)) : (flS l).length = 2 * l.length := by
  unfold flS
  induction l with
  | nil => rfl
  | cons x r ih =>
    rw [List.map_cons, List.flatten_cons, List.length_append, ih]
    show 2 + 2 * r.length = 2 * (r.length + 1)
    omega
theorem Rw.fl_sum : ∀ t : Rw, lenS t.fl ≤ t.m
  | .nil => Nat.le_refl _
  | .cons k r t => by
    have := Rw.fl_sum t
    have := Rc.t_len r
    show lenS (sh k :: r.t :: t.fl) ≤ (nT k).length + 7 + r.m + t.m
    rw [lenS_cons, lenS_cons]
    have e : (sh k).length = 1 + (nT k).length := by
      show ("#" ++ nT k).length = _
      rw [len_app]
      rfl
    omega
section
variable {P : Program} {w : World} {K : PySem.W.Frag} {mg : Str → Option Value} {base : Heap}
theorem ok_lRec {n : Nat} {f : Addr} {fd : FuncData} (F : Fun K "_law_record_text" "_law_record_text" sLRec f fd) (T : Bl K mg) (d_law_worth_text : DnO P w K mg base "_law_worth_text" (2 + 2 * n) ["_law_value", "_law_has_serials"] (spWorthT K n)) : FnOk P w K mg base CX0 (3 + 2 * n) f fd ["_law_record_here", "_law_has_serials"] (spRecT K n) := by
  have e3 : 3 + 2 * n = (2 + 2 * n) + 1 := by omega
  rw [e3]
  refine F.ok scl5 (fun vs H Q E h => ?_) (fun cdv A outer s H vs Q E hr h => ?_)
  · obtain ⟨v, p, rfl, _⟩ := h
    rfl
  · obtain ⟨v, x, rfl, tv, ok, hh, hm, q⟩ := h
    obtain ⟨a, xs, rfl, hT, ts⟩ := tv.ofTup
    have lx : xs.length = x.fs.length := by rw [ts.length, Rc.ds_len]
    refine ⟨_, (pss_one (ps_ret (pe_join pe_str (pe_op op_cat (pe_op op_cat (pe_lst (pa_cons pe_str pa_nil)) (pe_lc (own := [("_law_name_here", 2), ("_law_value", 3)]) (g := gTup K 2 (gCons (gName 2) (gCons (gName 3) gNil))) (by rfl) scl5.nd (pi_tup (pv 0)) (blkOk_by (own := [("_law_name_here", 2), ("_law_value", 3)]) (N := ["_law_record_here", "_law_has_serials", "_law_name_here", "_law_value"]) (sc := defScope sLRec) (by decide +kernel)) (fun _ _ _ _ _ => (pg_tup rfl (pgs_cons (pg_name (i := 2) scl5.nd rfl (Or.inl rfl)) (pgs_cons (pg_name (i := 3) scl5.nd rfl (Or.inl rfl)) pgs_nil)))) (fun _ _ _ _ _ => pts_nil) (fun _ _ _ _ _ => (pe_op op_add_str (pe_op op_add_str (pv 2) pe_str) (pe_call d_law_worth_text.ok (hr.mono (by omega)) (by rfl) d_law_worth_text.g d_law_worth_text.kp d_law_worth_text.b .nil pass0 (pa_cons (pv 3) (pa_cons (pv 1) pa_nil))))))) (pe_lst (pa_cons pe_str pa_nil)))))), ?_⟩
    refine ⟨⟨_, rfl⟩, by show 1 ≤ sizeLine; decide, fun B nB => ?_⟩
    have s0 := same_new (o := .lst [.str "{"]) nB
    have hT := SqT.tk (tk_same s0) hT
    have ts := ts.tk (tk_same s0)
    refine ⟨.ref a, rfl, a, rfl, ⟨_, hT⟩, fun D nD => ?_⟩
    refine lc_tup (K := K) (a := a) (xs := xs) (fun i H2 => Same (upd H B (.lst [.str "{"])) H2 ∧ H2 D = some (.lst (((x.fs.take i).map fT).map V.str))) ⟨same_new nD, upd_same⟩ (fun i H2 _ hP => SqT.tk (tk_same hP.1) hT) (fun i y H2 hx hP => ?_) (fun H2 hP => ?_)
    · obtain ⟨sm, hD⟩ := hP
      obtain ⟨d, hd, ty⟩ := ts.get hx
      obtain ⟨nm, wo, hf, rfl⟩ := Rc.ds_at hd
      obtain ⟨b, ys, rfl, hB, tb⟩ := ty.ofTup
      obtain ⟨u1, u2, rfl, t1, t2⟩ := tb.of2
      obtain rfl := t1.ofStr
      obtain ⟨m1, m2, m3, m4⟩ := Rc.mem (List.mem_of_getElem? hf) ok
      have hi : i < x.fs.length := (List.getElem?_eq_some_iff.mp hf).1
      have lw := wo.len
      have cn := Rc.cnt x
      refine ⟨b, _, rfl, SqT.tk (tk_same sm) hB, rfl, _, _, rfl, _, _, rfl, rfl, rfl, .str nm, rfl, nm, _, rfl, rfl, big_le (by show nm.length + 2 ≤ _; omega), u2, rfl, .bl true, rfl, u2, wo, rfl, t2.tk (tk_same sm), m2, by omega, by omega, fun H3 sm3 => ⟨_, _, rfl, rfl, ?_, _, sm3 _ _ hD, ?_, same_put (sm.trans sm3) nD, ?_⟩⟩
      · rw [len_app]
        show nm.length + 2 + _ ≤ _
        exact big_le (by omega)
      · rw [List.length_map, List.length_map, List.length_take]
        exact Nat.lt_of_le_of_lt (Nat.min_le_left _ _) (Nat.lt_of_lt_of_le (by omega) (big_le (n := 1000000) (by decide)))
      · rw [upd_same, take_lab hf, List.map_append]
        rfl
    · obtain ⟨sm, hD⟩ := hP
      rw [lx, List.take_length, ← Rc.ts_eq] at hD
      have hB := sm _ _ (upd_same (H := H) (a := B) (o := .lst [.str "{"]))
      have lt := Rc.len x
      have l2 : x.ts.length ≤ lenS x.ts := by unfold lenS; omega
      refine ⟨B, D, _, _, rfl, rfl, hB, hD, by rw [List.length_map]; exact big_le (by show 1 + _ ≤ _; omega), fun L nL => ⟨by show 1 ≤ sizeLine; decide, fun M nM => ?_⟩⟩
      have LM : L ≠ M := ne_of_none upd_same nM
      refine ⟨L, M, _, _, rfl, rfl, by rw [upd_ne LM]; exact upd_same, upd_same, ?_, fun N nN => ?_⟩
      · rw [List.length_append, List.length_map]
        exact big_le (by show 1 + _ + 1 ≤ _; omega)
      have sL := same_put (o := .lst ([V.str "{"] ++ x.ts.map V.str)) sm (sm.free nL)
      have sM := same_put (o := .lst [.str "}"]) sL (sL.free nM)
      refine ⟨_, N, ("{" : Str) :: (x.ts ++ [("}" : Str)]), rfl, rfl, .inl (SqL.of ?_), ?_, q _ (s0.trans (same_put sM (sM.free nN)))⟩
      · rw [upd_same]
        show _ = some (HO.lst (V.str "{" :: (x.ts ++ [("}" : Str)]).map V.str))
        rw [List.map_append]
        rfl
      · refine sum_le (n := 4 + x.m) ?_ (by omega)
        rw [lenS_cons, lenS_app]
        show 1 + 1 + (_ + 2) ≤ _
        omega
theorem ok_lWorth {n : Nat} {f : Addr} {fd : FuncData} (F : Fun K "_law_worth_text" "_law_worth_text" sLWorth f fd) (T : Bl K mg) (d_lit_text : DnO P w K mg base "_law_lit_text" 1 ["_law_value"] spLitT)
    (d_law_record_text : 0 < n → DnO P w K mg base "_law_record_text" (1 + 2 * n) ["_law_record_here", "_law_has_serials"] (spRecT K (n - 1))) :
    FnOk P w K mg base CX0 (2 + 2 * n) f fd ["_law_value", "_law_has_serials"] (spWorthT K n) := by
  have e3 : 2 + 2 * n = (1 + 2 * n) + 1 := by omega
  rw [e3]
  refine F.ok scl4 (fun vs H Q E h => ?_) (fun cdv A outer s H vs Q E hr h => ?_)
  · obtain ⟨v, p, rfl, _⟩ := h
    rfl
  · obtain ⟨v, x, rfl, tv, ok, hh, hm, q⟩ := h
    cases x with
    | lit l =>
      refine ⟨_, (pss_cons (ps_if (pt_not (pt_val (pe_callB call_isi (by rfl) T.isinstance (by decide +kernel) (pa_cons (pv 0) (pa_cons (pe_bltn (v := .ty "tuple") (by rfl) T.tuple (by decide +kernel) rfl) pa_nil)))))
        (pss_one (ps_ret (pe_call d_lit_text.ok (hr.mono (by omega)) (by rfl) d_lit_text.g d_lit_text.kp d_lit_text.b .nil pass0 (pa_cons (pv 0) pa_nil))))
        pss_nil) (pss_cons ps_never (pss_cons ps_never (pss_cons ps_never (pss_one ps_never))))), ?_⟩
      have hv : v = l.v := by
        cases l with
        | s x => exact tv.ofStr
        | i n => exact tv.ofInt
      subst hv
      refine ⟨l.v, rfl, l.v, .ty "tuple", _, _, false, rfl, .ty "tuple", tv.ty, ?_, false, rfl, iteT ?_⟩
      · cases l with
        | s x => exact kit_ty kST
        | i n => exact kit_ty kIT
      · exact ⟨l.v, rfl, l, rfl, ok, q H (Same.refl H)⟩
    | rc r =>
      have h0 : 0 < n := by
        have : r.h + 1 ≤ n := hh
        omega
      have d_law_record_text := d_law_record_text h0
      obtain ⟨ne, ok⟩ := ok
      cases r with
      | nil => exact absurd rfl ne
      | cons nm wo r =>
        obtain ⟨a, xs, rfl, hT, ts⟩ := tv.ofTup
        obtain ⟨y, ys, rfl, ty, tys⟩ := ts.ofCons
        obtain ⟨b, zs, rfl, hB, tb⟩ := ty.ofTup
        obtain ⟨u1, u2, rfl, t1, t2⟩ := tb.of2
        obtain rfl := t1.ofStr
        refine ⟨_, (pss_cons (ps_if (pt_not (pt_val (pe_callB call_isi (by rfl) T.isinstance (by decide +kernel) (pa_cons (pv 0) (pa_cons (pe_bltn (v := .ty "tuple") (by rfl) T.tuple (by decide +kernel) rfl) pa_nil)))))
        (pss_one (ps_ret (pe_call d_lit_text.ok (hr.mono (by omega)) (by rfl) d_lit_text.g d_lit_text.kp d_lit_text.b .nil pass0 (pa_cons (pv 0) pa_nil))))
        pss_nil)
      (pss_cons (ps_if (PW.pt (pw_and (pt_cmpR (op_ne0 hr.units0) (pv 0) (pe_tup pa_nil) (nomark _)) (pw_and1 (pt_val (pe_callB call_isi (by rfl) T.isinstance (by decide +kernel) (pa_cons (pe_ix (r := rIxT K) ix_tup (pe_ix (r := rIxT K) ix_tup (pv 0) pe_int (fun _ _ => rfl)) pe_int (fun _ _ => rfl)) (pa_cons (pe_bltn (v := .ty "str") (by rfl) T.str (by decide +kernel) rfl) pa_nil)))))))
        (pss_one (ps_ret (pe_call d_law_record_text.ok (hr.mono (by omega)) (by rfl) d_law_record_text.g d_law_record_text.kp d_law_record_text.b .nil pass0 (pa_cons (pv 0) (pa_cons (pv 1) pa_nil)))))
        pss_nil)
      (pss_cons (ps_set (i := 2) scl4.nd rfl (Or.inl rfl) (pe_lst (pa_cons pe_str pa_nil)))
      (pss_cons (ps_for PassesOwn.never rfl (pi_tup (pv 0)) (pg_tup rfl (pgs_cons (pg_name (i := 3) scl4.nd rfl (Or.inl rfl)) (pgs_cons (pg_name (i := 4) scl4.nd rfl (Or.inl rfl)) pgs_nil)))
        (pss_one (ps_expr (pe_bm PySem.F.plainAttrs_list PySem.F.slot_list_extend PySem.F.type_list_extend mt_extend (pv 2) (pa_cons (pe_op op_cat (pe_op op_rep (pe_lst (pa_cons (pe_op op_add_str pe_str (pe_callTy call_str_int (by rfl) T.str (by decide +kernel) (pa_cons (pv 3) pa_nil))) pa_nil)) (pe_callTy call_int1 (by rfl) T.int (by decide +kernel) (pa_cons (pv 1) pa_nil))) (pe_lst (pa_cons (pe_call d_law_record_text.ok (hr.mono (by omega)) (by rfl) d_law_record_text.g d_law_record_text.kp d_law_record_text.b .nil pass0 (pa_cons (pv 4) (pa_cons (pv 1) pa_nil))) pa_nil))) pa_nil)))))
      (pss_one (ps_ret (pe_join pe_str (pe_op op_cat (pv 2) (pe_lst (pa_cons pe_str pa_nil)))))))))), ?_⟩
        refine ⟨.ref a, rfl, .ref a, .ty "tuple", _, _, true, rfl, .ty "tuple", tv.ty, kit_ty kTT, true, rfl, iteF ?_⟩
        refine ⟨.ref a, rfl, by show 0 ≤ sizeLine; decide, fun p np => ?_⟩
        have s1 := same_new (o := .tup []) np
        refine ⟨a, p, _, rfl, rfl, SqT.tk (tk_same s1) hT, SqT.of upd_same, true, rfl, iteT ?_⟩
        refine ⟨.ref a, rfl, a, _, 0, .ref b, rfl, rfl, SqT.tk (tk_same s1) hT, atI_nat (j := 0) rfl, b, _, 0, .str nm, rfl, rfl, SqT.tk (tk_same s1) hB, rfl, .str nm, .ty "str", _, _, true, rfl, .ty "str", .base (.str nm), kit_ty (by decide +kernel), true, rfl, iteT ?_⟩
        have hh : (Rc.cons nm wo r).h + 1 ≤ n := hh
        have hm : 4 + (Rc.cons nm wo r).m ≤ 500000 := hm
        exact ⟨.ref a, rfl, .bl true, rfl, .ref a, .cons nm wo r, rfl, tv.tk (tk_same s1), ok, by omega, by omega, fun H' sm => q H' (s1.trans sm)⟩
    | rw t =>
      have h0 : 0 < n := by
        have : t.h + 1 ≤ n := hh
        omega
      have d_law_record_text := d_law_record_text h0
      have ok : t.ok := ok
      have hm : 4 + t.m ≤ 500000 := hm
      have hh : t.h + 1 ≤ n := hh
      obtain ⟨a, xs, rfl, hT, ts⟩ := tv.ofTup
      have lx : xs.length = t.rs.length := by rw [ts.length, Rw.ds_len]
      obtain ⟨t3, S3, h3⟩ : ∃ t3, PSs (cxOf CX0 P w K mg base ["_law_value", "_law_has_serials", "_law_found", "_law_serial", "_law_one"] "_law_worth_text" (defScope sLWorth) f cdv A outer s H E).nox ((defBody sLWorth).drop 2) t3 ∧
          ∀ H0, Same H H0 → t3 { nx := fun _ H' => Q .non H', rt := Q } (L2.start ["_law_value", "_law_has_serials", "_law_found", "_law_serial", "_law_one"] [.ref a, .bl true]) H0 := by
        refine ⟨_, (pss_cons (ps_set (i := 2) scl4.nd rfl (Or.inl rfl) (pe_lst (pa_cons pe_str pa_nil)))
      (pss_cons (ps_for PassesOwn.never rfl (pi_tup (pv 0)) (pg_tup rfl (pgs_cons (pg_name (i := 3) scl4.nd rfl (Or.inl rfl)) (pgs_cons (pg_name (i := 4) scl4.nd rfl (Or.inl rfl)) pgs_nil)))
        (pss_one (ps_expr (pe_bm PySem.F.plainAttrs_list PySem.F.slot_list_extend PySem.F.type_list_extend mt_extend (pv 2) (pa_cons (pe_op op_cat (pe_op op_rep (pe_lst (pa_cons (pe_op op_add_str pe_str (pe_callTy call_str_int (by rfl) T.str (by decide +kernel) (pa_cons (pv 3) pa_nil))) pa_nil)) (pe_callTy call_int1 (by rfl) T.int (by decide +kernel) (pa_cons (pv 1) pa_nil))) (pe_lst (pa_cons (pe_call d_law_record_text.ok (hr.mono (by omega)) (by rfl) d_law_record_text.g d_law_record_text.kp d_law_record_text.b .nil pass0 (pa_cons (pv 4) (pa_cons (pv 1) pa_nil))) pa_nil))) pa_nil)))))
      (pss_one (ps_ret (pe_join pe_str (pe_op op_cat (pv 2) (pe_lst (pa_cons pe_str pa_nil)))))))), fun H0 s1 => ?_⟩
        have hT := SqT.tk (tk_same s1) hT
        have ts := ts.tk (tk_same s1)
        refine ⟨by show 1 ≤ sizeLine; decide, fun D nD => ?_⟩
        refine ⟨.ref a, rfl, a, rfl, ⟨_, SqT.tk (tk_same (same_new nD)) hT⟩, ?_⟩
        refine for_tup (xs := xs) (fun i σ H2 => ∃ y3 y4, σ = [some (.ref a), some (.bl true), some (.ref D), y3, y4] ∧ Same H0 H2 ∧ H2 D = some (.lst ((("[" : Str) :: flS (t.rs.take i)).map V.str)))
          ⟨_, _, rfl, same_new nD, upd_same⟩ (fun i σ H2 _ h => ?_) (fun i x σ H2 hx h => ?_) (fun σ H2 h => ?_)
        · obtain ⟨_, _, _, sm, _⟩ := h
          exact SqT.tk (tk_same sm) hT
        · obtain ⟨y3, y4, rfl, sm, hD⟩ := h
          obtain ⟨d, hd, ty⟩ := ts.get hx
          obtain ⟨k, r, hf, rfl⟩ := Rw.ds_at hd
          obtain ⟨b, ys, rfl, hB, tb⟩ := ty.ofTup
          obtain ⟨u1, u2, rfl, t1, t2⟩ := tb.of2
          obtain rfl := t1.ofInt
          obtain ⟨m1, m2, m3, m4⟩ := Rw.mem (List.mem_of_getElem? hf) ok
          have hi : i < t.rs.length := (List.getElem?_eq_some_iff.mp hf).1
          have cn := Rw.cnt t
          have nl := nT_len (k := (k : Nat)) (by simpa using m1)
          refine ⟨b, _, rfl, SqT.tk (tk_same sm) hB, rfl, _, _, rfl, _, _, rfl, rfl, ?_⟩
          refine ⟨.ref D, rfl, .inl ⟨rfl, _, SqL.of hD⟩, .int k, rfl, (k : Int), rfl, log_le (by simpa using m1), _, _, rfl, rfl, big_le (by show 1 + (nT k).length ≤ _; omega), by show 1 ≤ sizeLine; decide, fun A1 nA1 => ?_⟩
          have sA := same_new (o := .lst [.str (sh k)]) nA1
          refine ⟨.bl true, rfl, .inr ⟨true, rfl, ?_⟩⟩
          refine ⟨A1, 1, _, rfl, rfl, upd_same, by decide, by decide, by show 1 * 1 ≤ sizeLine; decide, fun A2 nA2 => ?_⟩
          have sB := same_put (o := .lst [.str (sh k)]) sA (sA.free nA2)
          refine ⟨u2, rfl, .bl true, rfl, u2, r, rfl, t2.tk (tk_same (sm.trans sB)), m2, by omega, by omega, fun H4 sm4 => ⟨by show 1 ≤ sizeLine; decide, fun A3 nA3 => ?_⟩⟩
          have sC := same_put (o := .lst [.str r.t]) (sB.trans sm4) ((sB.trans sm4).free nA3)
          have eA2 : (upd H4 A3 (.lst [.str r.t])) A2 = some (.lst [.str (sh k)]) := by
            have : H4 A2 = some (.lst [.str (sh k)]) := sm4 _ _ upd_same
            rw [upd_ne (ne_of_none this nA3)]
            exact this
          refine ⟨A2, A3, _, _, rfl, rfl, eA2, upd_same, by show 1 + 1 ≤ sizeLine; decide, fun A4 nA4 => ?_⟩
          have sD := same_put (o := .lst ([.str (sh k)] ++ [.str r.t])) sC (sC.free nA4)
          have hD4 := sD _ _ hD
          refine ⟨D, A4, _, _, rfl, rfl, hD4, upd_same, ?_, ?_⟩
          · rw [List.length_map, List.length_cons, flS_len, List.length_take]
            have : min i t.rs.length ≤ i := Nat.min_le_left _ _
            exact big_le (by show _ + 1 + 2 ≤ _; omega)
          · refine ⟨_, _, rfl, same_put (sm.trans sD) nD, ?_⟩
            rw [upd_same, flS_take hf, ← List.cons_append, List.map_append]
            rfl
        · obtain ⟨y3, y4, rfl, sm, hD⟩ := h
          rw [lx, List.take_length, ← Rw.fl_eq] at hD
          refine ⟨⟨_, rfl⟩, .ref D, rfl, by show 1 ≤ sizeLine; decide, fun M nM => ?_⟩
          have DM : D ≠ M := ne_of_none hD nM
          have cn := Rw.cnt t
          have fl := Rw.fl_eq t
          have f2 := flS_len t.rs
          rw [← fl] at f2
          refine ⟨D, M, _, _, rfl, rfl, by rw [upd_ne DM]; exact hD, upd_same, ?_, fun N nN => ?_⟩
          · rw [List.length_map, List.length_cons]
            exact big_le (by show _ + 1 + 1 ≤ _; omega)
          have sM := same_put (o := .lst [.str "]"]) sm (sm.free nM)
          have hq := q _ (s1.trans (same_put (o := .lst ((("[" : Str) :: t.fl).map V.str ++ [.str "]"])) sM (sM.free nN)))
          have hq : Q (.str (lined "[" t.ts "]")) _ := hq
          rw [← rw_lined] at hq
          refine ⟨_, N, ("[" : Str) :: (t.fl ++ [("]" : Str)]), rfl, rfl, .inl (SqL.of ?_), ?_, hq⟩
          · rw [upd_same]
            show _ = some (HO.lst (V.str "[" :: (t.fl ++ [("]" : Str)]).map V.str))
            rw [List.map_append]
            rfl
          · have := Rw.fl_sum t
            refine sum_le (n := 4 + t.m) ?_ (by omega)
            rw [lenS_cons, lenS_app]
            show 1 + 1 + (_ + 2) ≤ _
            omega
      refine ⟨_, (pss_cons (ps_if (pt_not (pt_val (pe_callB call_isi (by rfl) T.isinstance (by decide +kernel) (pa_cons (pv 0) (pa_cons (pe_bltn (v := .ty "tuple") (by rfl) T.tuple (by decide +kernel) rfl) pa_nil)))))
        (pss_one (ps_ret (pe_call d_lit_text.ok (hr.mono (by omega)) (by rfl) d_lit_text.g d_lit_text.kp d_lit_text.b .nil pass0 (pa_cons (pv 0) pa_nil))))
        pss_nil)
      (pss_cons (ps_if (PW.pt (pw_and (pt_cmpR (op_ne0 hr.units0) (pv 0) (pe_tup pa_nil) (nomark _)) (pw_and1 (pt_val (pe_callB call_isi (by rfl) T.isinstance (by decide +kernel) (pa_cons (pe_ix (r := rIxT K) ix_tup (pe_ix (r := rIxT K) ix_tup (pv 0) pe_int (fun _ _ => rfl)) pe_int (fun _ _ => rfl)) (pa_cons (pe_bltn (v := .ty "str") (by rfl) T.str (by decide +kernel) rfl) pa_nil)))))))
        (pss_one (ps_ret (pe_call d_law_record_text.ok (hr.mono (by omega)) (by rfl) d_law_record_text.g d_law_record_text.kp d_law_record_text.b .nil pass0 (pa_cons (pv 0) (pa_cons (pv 1) pa_nil)))))
        pss_nil)
      S3)), ?_⟩
      refine ⟨.ref a, rfl, .ref a, .ty "tuple", _, _, true, rfl, .ty "tuple", tv.ty, kit_ty kTT, true, rfl, iteF ?_⟩
      refine ⟨.ref a, rfl, by show 0 ≤ sizeLine; decide, fun p np => ?_⟩
      have s1 := same_new (o := .tup []) np
      refine ⟨a, p, _, rfl, rfl, SqT.tk (tk_same s1) hT, SqT.of upd_same, _, rfl, ?_⟩
      cases t with
      | nil =>
        obtain rfl := ts.ofNil
        exact iteF (h3 _ s1)
      | cons k r t =>
        obtain ⟨y, ys, rfl, ty, tys⟩ := ts.ofCons
        obtain ⟨b, zs, rfl, hB, tb⟩ := ty.ofTup
        obtain ⟨u1, u2, rfl, t1, t2⟩ := tb.of2
        obtain rfl := t1.ofInt
        refine iteT ?_
        exact ⟨.ref a, rfl, a, _, 0, .ref b, rfl, rfl, SqT.tk (tk_same s1) hT, atI_nat (j := 0) rfl, b, _, 0, .int k, rfl, rfl, SqT.tk (tk_same s1) hB, rfl, .int k, .ty "str", _, _, false, rfl, .ty "str", .base (.int k), kit_ty kIS, false, rfl, iteF (h3 _ s1)⟩
theorem ok_ltexts {f1 f3 : Addr} {fd1 fd3 : FuncData} (F1 : Fun K "_law_worth_text" "_law_worth_text" sLWorth f1 fd1) (F3 : Fun K "_law_record_text" "_law_record_text" sLRec f3 fd3) (T : Bl K mg)
    (g1 : mg "_law_worth_text" = some (.ref f1)) (g3 : mg "_law_record_text" = some (.ref f3)) (b1 : Binds K fd1 ["_law_value", "_law_has_serials"] []) (b3 : Binds K fd3 ["_law_record_here", "_law_has_serials"] [])
    (d_lit_text : DnO P w K mg base "_law_lit_text" 1 ["_law_value"] spLitT) : ∀ n, FnOk P w K mg base CX0 (3 + 2 * n) f3 fd3 ["_law_record_here", "_law_has_serials"] (spRecT K n)
  | 0 => ok_lRec F3 T ⟨f1, fd1, ok_lWorth F1 T d_lit_text (fun z => absurd z (by decide)), g1, F1.kp, b1⟩
  | n + 1 => by
    have ih := ok_ltexts F1 F3 T g1 g3 b1 b3 d_lit_text n
    have e : 1 + 2 * (n + 1) = 3 + 2 * n := by omega
    refine ok_lRec F3 T ⟨f1, fd1, ok_lWorth F1 T d_lit_text (fun _ => ?_), g1, F1.kp, b1⟩
    rw [e]
    exact ⟨f3, fd3, ih, g3, F3.kp, b3⟩
end
end M91

set_option Elab.async false
set_option linter.all false
set_option maxRecDepth 100000
set_option maxHeartbeats 4000000
/-! the law's own texts of steps and deeds -/
namespace M91
open PySem PySem.Spec PyProof.Rows L2 GL
theorem scl6 : FnScope ["_law_step", "_law_found"] ["_law_step"] (defScope sLStep) := ⟨rfl, rfl, rfl, by decide +kernel, rfl, by decide +kernel, by decide +kernel⟩
theorem scl8 : FnScope ["_law_deed", "_law_rows", "_law_file", "_law_owner", "_law_path", "_law_found", "_law_serial", "_law_value"] ["_law_deed"] (defScope sLDeed) := ⟨rfl, rfl, rfl, by decide +kernel, rfl, by decide +kernel, by decide +kernel⟩
section
variable {P : Program} {w : World} {K : PySem.W.Frag} {mg : Str → Option Value} {base : Heap}
theorem ok_lStep {f : Addr} {fd : FuncData} (F : Fun K "_law_step_text" "_law_step_text" sLStep f fd) (T : Bl K mg) (d_lit_text : DnO P w K mg base "_law_lit_text" 1 ["_law_value"] spLitT)
    (d_law_place_text : DnO P w K mg base "_law_place_text" 3 ["_law_place"] (spPlaceT K)) (d_law_record_text : DnO P w K mg base "_law_record_text" 85 ["_law_record_here", "_law_has_serials"] (spRecT K 41)) : FnOk P w K mg base CX0 127 f fd ["_law_step"] (spStepT K) := by
  refine F.ok scl6 (fun vs H Q E h => ?_) (fun cdv A outer s H vs Q E hr h => ?_)
  · obtain ⟨v, p, rfl, _⟩ := h
    rfl
  · obtain ⟨v, x, rfl, tv, ok, q⟩ := h
    refine ⟨_, (pss_cons (ps_set (i := 1) scl6.nd rfl (Or.inl rfl) (pe_lst (pa_cons (pe_ix (r := rIxT K) ix_tup (pv 0) pe_int (fun _ _ => rfl)) (pa_cons (pe_call d_law_place_text.ok (hr.mono (by omega)) (by rfl) d_law_place_text.g d_law_place_text.kp d_law_place_text.b .nil pass0 (pa_cons (pe_ix (r := rIxT K) ix_tup (pv 0) pe_int (fun _ _ => rfl)) pa_nil)) pa_nil))))
      (pss_cons (ps_if (pt_cmpR op_eq (pe_ix (r := rIxT K) ix_tup (pv 0) pe_int (fun _ _ => rfl)) pe_str (nomark _))
        (pss_one (ps_expr (pe_bm PySem.F.plainAttrs_list PySem.F.slot_list_append PySem.F.type_list_append mt_append (pv 1) (pa_cons (pe_call d_lit_text.ok (hr.mono (by omega)) (by rfl) d_lit_text.g d_lit_text.kp d_lit_text.b .nil pass0 (pa_cons (pe_ix (r := rIxT K) ix_tup (pv 0) pe_int (fun _ _ => rfl)) pa_nil)) pa_nil))))
        pss_nil)
      (pss_cons (ps_if (pt_cmpR op_eq (pe_ix (r := rIxT K) ix_tup (pv 0) pe_int (fun _ _ => rfl)) pe_str (nomark _))
        (pss_one (ps_expr (pe_bm PySem.F.plainAttrs_list PySem.F.slot_list_append PySem.F.type_list_append mt_append (pv 1) (pa_cons (pe_op op_add_str pe_str (pe_callTy call_str_int (by rfl) T.str (by decide +kernel) (pa_cons (pe_ix (r := rIxT K) ix_tup (pv 0) pe_int (fun _ _ => rfl)) pa_nil))) pa_nil))))
        pss_nil)
      (pss_cons (ps_if (pt_cmpR op_eq (pe_ix (r := rIxT K) ix_tup (pv 0) pe_int (fun _ _ => rfl)) pe_str (nomark _))
        (pss_one (ps_expr (pe_bm PySem.F.plainAttrs_list PySem.F.slot_list_extend PySem.F.type_list_extend mt_extend (pv 1) (pa_cons (pe_lst (pa_cons (pe_callTy call_str_int (by rfl) T.str (by decide +kernel) (pa_cons (pe_ix (r := rIxT K) ix_tup (pv 0) pe_int (fun _ _ => rfl)) pa_nil)) (pa_cons (pe_op op_add_str pe_str (pe_callTy call_str_int (by rfl) T.str (by decide +kernel) (pa_cons (pe_ix (r := rIxT K) ix_tup (pv 0) pe_int (fun _ _ => rfl)) pa_nil))) (pa_cons (pe_call d_law_record_text.ok (hr.mono (by omega)) (by rfl) d_law_record_text.g d_law_record_text.kp d_law_record_text.b .nil pass0 (pa_cons (pe_ix (r := rIxT K) ix_tup (pv 0) pe_int (fun _ _ => rfl)) (pa_cons pe_bl pa_nil))) pa_nil)))) pa_nil))))
        pss_nil)
      (pss_cons (ps_if (pt_cmpR op_eq (pe_ix (r := rIxT K) ix_tup (pv 0) pe_int (fun _ _ => rfl)) pe_str (nomark _))
        (pss_one (ps_expr (pe_bm PySem.F.plainAttrs_list PySem.F.slot_list_extend PySem.F.type_list_extend mt_extend (pv 1) (pa_cons (pe_lst (pa_cons (pe_op op_add_str pe_str (pe_callTy call_str_int (by rfl) T.str (by decide +kernel) (pa_cons (pe_ix (r := rIxT K) ix_tup (pv 0) pe_int (fun _ _ => rfl)) pa_nil))) (pa_cons (pe_call d_law_place_text.ok (hr.mono (by omega)) (by rfl) d_law_place_text.g d_law_place_text.kp d_law_place_text.b .nil pass0 (pa_cons (pe_ix (r := rIxT K) ix_tup (pv 0) pe_int (fun _ _ => rfl)) pa_nil)) (pa_cons (pe_callTy call_str_int (by rfl) T.str (by decide +kernel) (pa_cons (pe_ix (r := rIxT K) ix_tup (pv 0) pe_int (fun _ _ => rfl)) pa_nil)) pa_nil)))) pa_nil))))
        pss_nil)
      (pss_one (ps_ret (pe_join pe_str (pv 1))))))))), ?_⟩
    have hlen := Stp.len ok
    cases x with
    | set p l =>
      obtain ⟨a, xs, rfl, hT, ts⟩ := tv.ofTup
      obtain ⟨u1, u2, u3, rfl, t1, t2, t3⟩ := ts.of3
      obtain rfl := t1.ofStr
      have hv : u3 = l.v := by
        cases l with
        | s x => exact t3.ofStr
        | i n => exact t3.ofInt
      subst hv
      refine ⟨.ref a, rfl, a, _, 0, .str "set", rfl, rfl, hT, rfl, .ref a, rfl, a, _, 1, u2, rfl, rfl, hT, rfl, u2, p, rfl, t2, ok.1, fun H1 s1 => ⟨by show 2 ≤ sizeLine; decide, fun D nD => ?_⟩⟩
      have s2 := same_put (o := .lst [.str "set", .str (placeT p)]) s1 (s1.free nD)
      have hT0 := hT
      have hT := SqT.tk (tk_same s2) hT
      refine ⟨.ref a, rfl, a, _, 0, .str "set", rfl, rfl, hT, rfl, rfl, _, rfl, iteT ?_⟩
      refine ⟨.ref D, rfl, .inl ⟨rfl, _, SqL.of upd_same⟩, .ref a, rfl, a, _, 2, l.v, rfl, rfl, hT, rfl, l, rfl, ok.2, D, _, _, rfl, rfl, upd_same, by show 2 < sizeLine; decide, ?_⟩
      have s3 := same_put (o := .lst ([.str "set", .str (placeT p)] ++ [.str l.t])) s2 (s1.free nD)
      have hT3 := SqT.tk (tk_same s3) hT0
      refine ⟨.ref a, rfl, a, _, 0, .str "set", rfl, rfl, hT3, rfl, rfl, _, rfl, iteF ?_⟩
      refine ⟨.ref a, rfl, a, _, 0, .str "set", rfl, rfl, hT3, rfl, rfl, _, rfl, iteF ?_⟩
      refine ⟨.ref a, rfl, a, _, 0, .str "set", rfl, rfl, hT3, rfl, rfl, _, rfl, iteF ?_⟩
      exact ⟨⟨_, rfl⟩, .ref D, rfl, _, D, ["set", placeT p, l.t], rfl, rfl, .inl (SqL.of upd_same), sum_le hlen (by decide), q _ s3⟩
    | take p k =>
      obtain ⟨a, xs, rfl, hT, ts⟩ := tv.ofTup
      obtain ⟨u1, u2, u3, rfl, t1, t2, t3⟩ := ts.of3
      obtain rfl := t1.ofStr
      obtain rfl := t3.ofInt
      have nl := nT_len (k := (k : Nat)) (by have := ok.2; simpa using this)
      refine ⟨.ref a, rfl, a, _, 0, .str "take", rfl, rfl, hT, rfl, .ref a, rfl, a, _, 1, u2, rfl, rfl, hT, rfl, u2, p, rfl, t2, ok.1, fun H1 s1 => ⟨by show 2 ≤ sizeLine; decide, fun D nD => ?_⟩⟩
      have s2 := same_put (o := .lst [.str "take", .str (placeT p)]) s1 (s1.free nD)
      have hT0 := hT
      have hT := SqT.tk (tk_same s2) hT
      refine ⟨.ref a, rfl, a, _, 0, .str "take", rfl, rfl, hT, rfl, rfl, _, rfl, iteF ?_⟩
      refine ⟨.ref a, rfl, a, _, 0, .str "take", rfl, rfl, hT, rfl, rfl, _, rfl, iteT ?_⟩
      refine ⟨.ref D, rfl, .inl ⟨rfl, _, SqL.of upd_same⟩, .ref a, rfl, a, _, 2, .int k, rfl, rfl, hT, rfl, (k : Int), rfl, log_le (by have := ok.2; simpa using this), _, _, rfl, rfl, big_le (by show 1 + (nT k).length ≤ _; omega), D, _, _, rfl, rfl, upd_same, by show 2 < sizeLine; decide, ?_⟩
      have s3 := same_put (o := .lst ([.str "take", .str (placeT p)] ++ [.str (sh k)])) s2 (s1.free nD)
      have hT3 := SqT.tk (tk_same s3) hT0
      refine ⟨.ref a, rfl, a, _, 0, .str "take", rfl, rfl, hT3, rfl, rfl, _, rfl, iteF ?_⟩
      refine ⟨.ref a, rfl, a, _, 0, .str "take", rfl, rfl, hT3, rfl, rfl, _, rfl, iteF ?_⟩
      exact ⟨⟨_, rfl⟩, .ref D, rfl, _, D, ["take", placeT p, sh k], rfl, rfl, .inl (SqL.of upd_same), sum_le hlen (by decide), q _ s3⟩
    | put p i k r =>
      obtain ⟨o1, o2, o3, o4, o5, o6⟩ := ok
      obtain ⟨a, xs, rfl, hT, ts⟩ := tv.ofTup
      obtain ⟨u1, ys, rfl, t1, ts⟩ := ts.ofCons
      obtain ⟨u2, ys, rfl, t2, ts⟩ := ts.ofCons
      obtain ⟨u3, u4, u5, rfl, t3, t4, t5⟩ := ts.of3
      obtain rfl := t1.ofStr
      obtain rfl := t3.ofInt
      obtain rfl := t4.ofInt
      have nl := nT_len (k := (k : Nat)) (by simpa using o3)
      refine ⟨.ref a, rfl, a, _, 0, .str "put", rfl, rfl, hT, rfl, .ref a, rfl, a, _, 1, u2, rfl, rfl, hT, rfl, u2, p, rfl, t2, o1, fun H1 s1 => ⟨by show 2 ≤ sizeLine; decide, fun D nD => ?_⟩⟩
      have s2 := same_put (o := .lst [.str "put", .str (placeT p)]) s1 (s1.free nD)
      have hT0 := hT
      have hT := SqT.tk (tk_same s2) hT
      refine ⟨.ref a, rfl, a, _, 0, .str "put", rfl, rfl, hT, rfl, rfl, _, rfl, iteF ?_⟩
      refine ⟨.ref a, rfl, a, _, 0, .str "put", rfl, rfl, hT, rfl, rfl, _, rfl, iteF ?_⟩
      refine ⟨.ref a, rfl, a, _, 0, .str "put", rfl, rfl, hT, rfl, rfl, _, rfl, iteT ?_⟩
      refine ⟨.ref D, rfl, .inl ⟨rfl, _, SqL.of upd_same⟩, .ref a, rfl, a, _, 2, .int i, rfl, rfl, hT, rfl, (i : Int), rfl, log_le (by simpa using o2), .ref a, rfl, a, _, 3, .int k, rfl, rfl, hT, rfl, (k : Int), rfl, log_le (by simpa using o3), _, _, rfl, rfl, big_le (by show 1 + (nT k).length ≤ _; omega),
        .ref a, rfl, a, _, 4, u5, rfl, rfl, hT, rfl, u5, r, rfl, t5.tk (tk_same s2), o4, o5, by omega, fun H2 sm2 => ⟨by show 3 ≤ sizeLine; decide, fun L nL => ?_⟩⟩
      have hD2 : (upd H2 L (.lst [.str (nT i), .str (sh k), .str r.t])) D = some (.lst [.str "put", .str (placeT p)]) := by
        have : H2 D = some (.lst [.str "put", .str (placeT p)]) := sm2 _ _ upd_same
        rw [upd_ne (ne_of_none this nL)]
        exact this
      refine ⟨D, L, _, _, rfl, rfl, hD2, upd_same, by show 2 + 3 ≤ sizeLine; decide, ?_⟩
      have s3 := same_put (o := .lst ([.str "put", .str (placeT p)] ++ [.str (nT i), .str (sh k), .str r.t])) (same_put (o := .lst [.str (nT i), .str (sh k), .str r.t]) (s2.trans sm2) ((s2.trans sm2).free nL)) (s1.free nD)
      have hT3 := SqT.tk (tk_same s3) hT0
      refine ⟨.ref a, rfl, a, _, 0, .str "put", rfl, rfl, hT3, rfl, rfl, _, rfl, iteF ?_⟩
      exact ⟨⟨_, rfl⟩, .ref D, rfl, _, D, ["put", placeT p, nT i, sh k, r.t], rfl, rfl, .inl (SqL.of upd_same), sum_le hlen (by decide), q _ s3⟩
    | carry p k z i =>
      obtain ⟨o1, o2, o3, o4⟩ := ok
      obtain ⟨a, xs, rfl, hT, ts⟩ := tv.ofTup
      obtain ⟨u1, ys, rfl, t1, ts⟩ := ts.ofCons
      obtain ⟨u2, ys, rfl, t2, ts⟩ := ts.ofCons
      obtain ⟨u3, u4, u5, rfl, t3, t4, t5⟩ := ts.of3
      obtain rfl := t1.ofStr
      obtain rfl := t3.ofInt
      obtain rfl := t5.ofInt
      have nl := nT_len (k := (k : Nat)) (by simpa using o2)
      refine ⟨.ref a, rfl, a, _, 0, .str "carry", rfl, rfl, hT, rfl, .ref a, rfl, a, _, 1, u2, rfl, rfl, hT, rfl, u2, p, rfl, t2, o1, fun H1 s1 => ⟨by show 2 ≤ sizeLine; decide, fun D nD => ?_⟩⟩
      have s2 := same_put (o := .lst [.str "carry", .str (placeT p)]) s1 (s1.free nD)
      have hT0 := hT
      have hT := SqT.tk (tk_same s2) hT
      refine ⟨.ref a, rfl, a, _, 0, .str "carry", rfl, rfl, hT, rfl, rfl, _, rfl, iteF ?_⟩
      refine ⟨.ref a, rfl, a, _, 0, .str "carry", rfl, rfl, hT, rfl, rfl, _, rfl, iteF ?_⟩
      refine ⟨.ref a, rfl, a, _, 0, .str "carry", rfl, rfl, hT, rfl, rfl, _, rfl, iteF ?_⟩
      refine ⟨.ref a, rfl, a, _, 0, .str "carry", rfl, rfl, hT, rfl, rfl, _, rfl, iteT ?_⟩
      refine ⟨.ref D, rfl, .inl ⟨rfl, _, SqL.of upd_same⟩, .ref a, rfl, a, _, 2, .int k, rfl, rfl, hT, rfl, (k : Int), rfl, log_le (by simpa using o2), _, _, rfl, rfl, big_le (by show 1 + (nT k).length ≤ _; omega),
        .ref a, rfl, a, _, 3, u4, rfl, rfl, hT, rfl, u4, z, rfl, t4.tk (tk_same s2), o3, fun H2 sm2 => ?_⟩
      refine ⟨.ref a, rfl, a, _, 4, .int i, rfl, rfl, SqT.tk (tk_same (s2.trans sm2)) hT0, rfl, (i : Int), rfl, log_le (by simpa using o4), by show 3 ≤ sizeLine; decide, fun L nL => ?_⟩
      have hD2 : (upd H2 L (.lst [.str (sh k), .str (placeT z), .str (nT i)])) D = some (.lst [.str "carry", .str (placeT p)]) := by
        have : H2 D = some (.lst [.str "carry", .str (placeT p)]) := sm2 _ _ upd_same
        rw [upd_ne (ne_of_none this nL)]
        exact this
      refine ⟨D, L, _, _, rfl, rfl, hD2, upd_same, by show 2 + 3 ≤ sizeLine; decide, ?_⟩
      have s3 := same_put (o := .lst ([.str "carry", .str (placeT p)] ++ [.str (sh k), .str (placeT z), .str (nT i)])) (same_put (o := .lst [.str (sh k), .str (placeT z), .str (nT i)]) (s2.trans sm2) ((s2.trans sm2).free nL)) (s1.free nD)
      exact ⟨⟨_, rfl⟩, .ref D, rfl, _, D, ["carry", placeT p, sh k, placeT z, nT i], rfl, rfl, .inl (SqL.of upd_same), sum_le hlen (by decide), q _ s3⟩
theorem spot_join (x o : Str) (p : Str) : x ++ "/" ++ o ++ "/" ++ p = Txt.join "/" [x, o, p] := by
  apply str_ext
  rw [cs_join]
  simp only [List.map_cons, List.map_nil, jn, cs_app, List.append_assoc]
theorem ok_lDeed {f : Addr} {fd : FuncData} (F : Fun K "_law_deed_text" "_law_deed_text" sLDeed f fd) (T : Bl K mg) (d_lit_text : DnO P w K mg base "_law_lit_text" 1 ["_law_value"] spLitT)
    (d_law_path_text : DnO P w K mg base "_law_path_text" 2 ["_law_path"] (spPathT K)) : FnOk P w K mg base CX0 4 f fd ["_law_deed"] (spDeedT K) := by
  refine F.ok scl8 (fun vs H Q E h => ?_) (fun cdv A outer s H vs Q E hr h => ?_)
  · obtain ⟨v, p, rfl, _⟩ := h
    rfl
  · obtain ⟨v, x, rfl, tv, ok, q⟩ := h
    refine ⟨_, (pss_cons (ps_if (pt_cmpR op_eq (pe_ix (r := rIxT K) ix_tup (pv 0) pe_int (fun _ _ => rfl)) pe_str (nomark _))
        (pss_cons (ps_setLc (i := 1) (own := [("_law_serial", 6)]) (g := gName 6) (by rfl) scl8.nd rfl rfl (sw_true rfl rfl rfl (by decide +kernel)) (pi_tup (pe_ix (r := rIxT K) ix_tup (pv 0) pe_int (fun _ _ => rfl))) (blkOk_by (own := [("_law_serial", 6)]) (N := ["_law_deed", "_law_rows", "_law_file", "_law_owner", "_law_path", "_law_found", "_law_serial", "_law_value"]) (sc := defScope sLDeed) (by decide +kernel)) (fun _ _ _ _ _ => (pg_name (i := 6) scl8.nd rfl (Or.inl rfl))) (fun _ _ _ _ _ => pts_nil) (fun _ _ _ _ _ => (pe_op op_add_str pe_str (pe_callTy call_str_int (by rfl) T.str (by decide +kernel) (pa_cons (pv 6) pa_nil)))))
        (pss_one (ps_ret (pe_join pe_str (pe_op op_cat (pe_lst (pa_cons pe_str (pa_cons (pe_op op_add_str (pe_op op_add_str (pe_ix (r := rIxT K) ix_tup (pv 0) pe_int (fun _ _ => rfl)) pe_str) (pe_ix (r := rIxT K) ix_tup (pv 0) pe_int (fun _ _ => rfl))) pa_nil))) (pe_ifExp (pt_cmpR (op_neS hr.units0) (pv 1) (pe_lst pa_nil) (nomark _)) (pv 1) (pe_lst (pa_cons pe_str pa_nil))))))))
        pss_nil)
      (pss_cons (ps_asg (pe_ix (r := rIxT K) ix_tup (pv 0) pe_int (fun _ _ => rfl)) (pg_tup rfl (pgs_cons (pg_name (i := 2) scl8.nd rfl (Or.inl rfl)) (pgs_cons (pg_name (i := 3) scl8.nd rfl (Or.inl rfl)) (pgs_cons (pg_name (i := 4) scl8.nd rfl (Or.inl rfl)) pgs_nil)))))
      (pss_cons (ps_set (i := 5) scl8.nd rfl (Or.inl rfl) (pe_lst (pa_cons (pe_ix (r := rIxT K) ix_tup (pv 0) pe_int (fun _ _ => rfl)) (pa_cons (pe_op op_add_str (pe_op op_add_str (pe_op op_add_str (pe_op op_add_str (pv 2) pe_str) (pv 3)) pe_str) (pe_call d_law_path_text.ok (hr.mono (by omega)) (by rfl) d_law_path_text.g d_law_path_text.kp d_law_path_text.b .nil pass0 (pa_cons (pv 4) pa_nil))) pa_nil))))
      (pss_one (ps_ret (pe_join pe_str (pe_op op_cat (pv 5) (pe_lc (own := [("_law_value", 7)]) (g := gName 7) (by rfl) scl8.nd (pi_tup (pe_slice (r := rSlA K) sl_tupA (pv 0) (po_some pe_int) po_none)) (blkOk_by (own := [("_law_value", 7)]) (N := ["_law_deed", "_law_rows", "_law_file", "_law_owner", "_law_path", "_law_found", "_law_serial", "_law_value"]) (sc := defScope sLDeed) (by decide +kernel)) (fun _ _ _ _ _ => (pg_name (i := 7) scl8.nd rfl (Or.inl rfl))) (fun _ _ _ _ _ => pts_nil) (fun _ _ _ _ _ => (pe_call d_lit_text.ok (hr.mono (by omega)) (by rfl) d_lit_text.g d_lit_text.kp d_lit_text.b .nil pass0 (pa_cons (pv 7) pa_nil))))))))))), ?_⟩
    have hlen := Dd.len ok
    cases x with
    | set p l =>
      obtain ⟨okp, o2⟩ := ok
      obtain ⟨a, xs, rfl, hT, ts⟩ := tv.ofTup
      obtain ⟨u1, u2, u3, rfl, t1, t2, t3⟩ := ts.of3
      obtain rfl := t1.ofStr
      have hv : u3 = l.v := by
        cases l with
        | s x => exact t3.ofStr
        | i n => exact t3.ofInt
      subst hv
      obtain ⟨b, zs, rfl, hB, tb⟩ := t2.ofTup
      obtain ⟨v1, v2, v3, rfl, e1, e2, e3⟩ := tb.of3
      obtain rfl := e1.ofStr
      obtain rfl := e2.ofStr
      obtain ⟨fx, ox, px⟩ := p
      have hx : fx.length ≤ 60 := okp.1
      have ho : ox.length ≤ 60 := okp.2.1
      have hp := pathT_len (p := px) okp.2.2
      refine ⟨.ref a, rfl, a, _, 0, .str "set", rfl, rfl, hT, rfl, rfl, _, rfl, iteF ?_⟩
      refine ⟨.ref a, rfl, a, _, 1, .ref b, rfl, rfl, hT, rfl, b, _, rfl, hB, rfl, _, _, rfl, _, _, rfl, _, _, rfl, rfl, ?_⟩
      refine ⟨.ref a, rfl, a, _, 0, .str "set", rfl, rfl, hT, rfl, .str fx, rfl, fx, _, rfl, rfl, big_le (by show fx.length + 1 ≤ _; omega), .str ox, rfl, _, ox, rfl, rfl, big_le (by rw [len_app]; show fx.length + 1 + ox.length ≤ _; omega), _, _, rfl, rfl, big_le (by rw [len_app, len_app]; show fx.length + 1 + ox.length + 1 ≤ _; omega), v3, rfl, v3, px, rfl, e3, okp.2.2, fun H1 s1 => ?_⟩
      refine ⟨_, _, rfl, rfl, big_le (by rw [len_app, len_app, len_app]; show fx.length + 1 + ox.length + 1 + _ ≤ _; omega), by show 2 ≤ sizeLine; decide, fun D nD => ?_⟩
      have sj : fx ++ "/" ++ ox ++ "/" ++ pathT px = Spot.t ⟨fx, ox, px⟩ := spot_join fx ox (pathT px)
      rw [sj]
      have s2 := same_put (o := .lst [.str "set", .str (Spot.t ⟨fx, ox, px⟩)]) s1 (s1.free nD)
      have hT2 := SqT.tk (tk_same s2) hT
      refine ⟨⟨_, rfl⟩, .ref D, rfl, .ref a, rfl, 2, rfl, a, _, rfl, hT2, fun z => absurd z.1 (show ¬ HT.sIx 3 0 (some 2) = 0 by decide), fun _ p2 np2 => ?_⟩
      refine ⟨p2, rfl, ⟨_, SqT.of upd_same⟩, fun C nC => ?_⟩
      have hD := same_new (o := .tup [l.v]) np2 _ _ (upd_same (H := H1) (a := D) (o := .lst [.str "set", .str (Spot.t ⟨fx, ox, px⟩)]))
      have s3 := same_put (o := .tup [l.v]) s2 (s2.free np2)
      refine lc_tup (K := K) (a := p2) (xs := [l.v]) (fun i H2 => Same (upd (upd H1 D (.lst [.str "set", .str (Spot.t ⟨fx, ox, px⟩)])) p2 (.tup [l.v])) H2 ∧ H2 C = some (.lst ((([l].take i).map Lit.t).map V.str))) ⟨same_new nC, upd_same⟩ (fun i H2 _ hP => SqT.of (hP.1 _ _ upd_same)) (fun i x H2 hx hP => ?_) (fun H2 hP => ?_)
      · obtain ⟨sm, hC⟩ := hP
        obtain ⟨l2, hl2, rfl⟩ := map_at (f := Lit.v) (p := [l]) hx
        have : l2 ∈ [l] := List.mem_of_getElem? hl2
        obtain rfl := List.mem_singleton.mp this
        refine ⟨rfl, l2.v, rfl, l2, rfl, o2, _, hC, ?_, same_put sm nC, ?_⟩
        · rw [List.length_map, List.length_map, List.length_take]
          exact Nat.lt_of_le_of_lt (Nat.min_le_right _ _) (show 1 < sizeLine by decide)
        · rw [upd_same, take_lab hl2, List.map_append]
          rfl
      · obtain ⟨sm, hC⟩ := hP
        refine ⟨D, C, _, _, rfl, rfl, sm _ _ hD, hC, by show 2 + 1 ≤ sizeLine; decide, fun N nN => ?_⟩
        exact ⟨_, N, ["set", Spot.t ⟨fx, ox, px⟩, l.t], rfl, rfl, .inl (SqL.of upd_same), sum_le hlen (by decide), q _ (s3.trans (same_put sm (sm.free nN)))⟩
    | gone p =>
      have okp : p.ok := ok
      obtain ⟨a, xs, rfl, hT, ts⟩ := tv.ofTup
      obtain ⟨u1, u2, rfl, t1, t2⟩ := ts.of2
      obtain rfl := t1.ofStr
      obtain ⟨b, zs, rfl, hB, tb⟩ := t2.ofTup
      obtain ⟨v1, v2, v3, rfl, e1, e2, e3⟩ := tb.of3
      obtain rfl := e1.ofStr
      obtain rfl := e2.ofStr
      obtain ⟨fx, ox, px⟩ := p
      have hx : fx.length ≤ 60 := okp.1
      have ho : ox.length ≤ 60 := okp.2.1
      have hp := pathT_len (p := px) okp.2.2
      refine ⟨.ref a, rfl, a, _, 0, .str "gone", rfl, rfl, hT, rfl, rfl, _, rfl, iteF ?_⟩
      refine ⟨.ref a, rfl, a, _, 1, .ref b, rfl, rfl, hT, rfl, b, _, rfl, hB, rfl, _, _, rfl, _, _, rfl, _, _, rfl, rfl, ?_⟩
      refine ⟨.ref a, rfl, a, _, 0, .str "gone", rfl, rfl, hT, rfl, .str fx, rfl, fx, _, rfl, rfl, big_le (by show fx.length + 1 ≤ _; omega), .str ox, rfl, _, ox, rfl, rfl, big_le (by rw [len_app]; show fx.length + 1 + ox.length ≤ _; omega), _, _, rfl, rfl, big_le (by rw [len_app, len_app]; show fx.length + 1 + ox.length + 1 ≤ _; omega), v3, rfl, v3, px, rfl, e3, okp.2.2, fun H1 s1 => ?_⟩
      refine ⟨_, _, rfl, rfl, big_le (by rw [len_app, len_app, len_app]; show fx.length + 1 + ox.length + 1 + _ ≤ _; omega), by show 2 ≤ sizeLine; decide, fun D nD => ?_⟩
      have sj : fx ++ "/" ++ ox ++ "/" ++ pathT px = Spot.t ⟨fx, ox, px⟩ := spot_join fx ox (pathT px)
      rw [sj]
      have s2 := same_put (o := .lst [.str "gone", .str (Spot.t ⟨fx, ox, px⟩)]) s1 (s1.free nD)
      have hT2 := SqT.tk (tk_same s2) hT
      refine ⟨⟨_, rfl⟩, .ref D, rfl, .ref a, rfl, 2, rfl, a, _, rfl, hT2, fun z => absurd z.1 (show ¬ HT.sIx 2 0 (some 2) = 0 by decide), fun _ p2 np2 => ?_⟩
      refine ⟨p2, rfl, ⟨_, SqT.of upd_same⟩, fun C nC => ?_⟩
      have hD := same_new (o := .tup []) np2 _ _ (upd_same (H := H1) (a := D) (o := .lst [.str "gone", .str (Spot.t ⟨fx, ox, px⟩)]))
      have s3 := same_put (o := .tup []) s2 (s2.free np2)
      refine lc_tup (K := K) (a := p2) (xs := []) (fun i H2 => Same (upd (upd H1 D (.lst [.str "gone", .str (Spot.t ⟨fx, ox, px⟩)])) p2 (.tup [])) H2 ∧ H2 C = some (.lst [])) ⟨same_new nC, upd_same⟩ (fun i H2 _ hP => SqT.of (hP.1 _ _ upd_same)) (fun i x H2 hx hP => ?_) (fun H2 hP => ?_)
      · simp at hx
      · obtain ⟨sm, hC⟩ := hP
        refine ⟨D, C, _, _, rfl, rfl, sm _ _ hD, hC, by show 2 + 0 ≤ sizeLine; decide, fun N nN => ?_⟩
        exact ⟨_, N, ["gone", Spot.t ⟨fx, ox, px⟩], rfl, rfl, .inl (SqL.of upd_same), sum_le hlen (by decide), q _ (s3.trans (same_put sm (sm.free nN)))⟩
    | order x n ks =>
      obtain ⟨o1, o2, o3, o4⟩ := ok
      obtain ⟨a, xs, rfl, hT, ts⟩ := tv.ofTup
      obtain ⟨u1, ys, rfl, t1, ts⟩ := ts.ofCons
      obtain ⟨u2, u3, u4, rfl, t2, t3, t4⟩ := ts.of3
      obtain rfl := t1.ofStr
      obtain rfl := t2.ofStr
      obtain rfl := t3.ofStr
      obtain ⟨b, zs, rfl, hB, tb⟩ := t4.ofTup
      obtain rfl := tb.ints
      refine ⟨.ref a, rfl, a, _, 0, .str "order", rfl, rfl, hT, rfl, rfl, _, rfl, iteT ?_⟩
      refine ⟨.ref a, rfl, a, _, 3, .ref b, rfl, rfl, hT, rfl, b, rfl, ⟨_, hB⟩, fun D nD => ?_⟩
      refine lc_tup (K := K) (a := b) (xs := ks.map intV) (fun i H2 => Same H H2 ∧ H2 D = some (.lst (((ks.take i).map sh).map V.str))) ⟨same_new nD, upd_same⟩ (fun i H2 _ hP => SqT.tk (tk_same hP.1) hB) (fun i y H2 hx hP => ?_) (fun H2 hP => ?_)
      · obtain ⟨sm, hD⟩ := hP
        obtain ⟨k2, hk2, rfl⟩ := map_at hx
        have hi := (List.getElem?_eq_some_iff.mp hk2).1
        have hk := o4 k2 (List.mem_of_getElem? hk2)
        have nl := nT_len (k := (k2 : Nat)) (by simpa using hk)
        refine ⟨rfl, intV k2, rfl, (k2 : Int), rfl, log_le (by simpa using hk), _, _, rfl, rfl, big_le (by show 1 + (nT k2).length ≤ _; omega), _, hD, ?_, same_put sm nD, ?_⟩
        · rw [List.length_map, List.length_map, List.length_take]
          exact Nat.lt_of_le_of_lt (Nat.min_le_left _ _) (Nat.lt_of_lt_of_le (by omega) (big_le (n := 1000000) (by decide)))
        · rw [upd_same, take_lab hk2, List.map_append]
          rfl
      · obtain ⟨sm, hD⟩ := hP
        rw [List.length_map, List.take_length] at hD
        have hT2 := SqT.tk (tk_same sm) hT
        refine ⟨⟨_, rfl⟩, .ref a, rfl, a, _, 1, .str x, rfl, rfl, hT2, rfl, x, _, rfl, rfl, big_le (by show x.length + 1 ≤ _; omega), .ref a, rfl, a, _, 2, .str n, rfl, rfl, hT2, rfl, _, n, rfl, rfl, big_le (by rw [len_app]; show x.length + 1 + n.length ≤ _; omega), by show 2 ≤ sizeLine; decide, fun M nM => ?_⟩
        have s1 := same_put (o := .lst [.str "order", .str (x ++ "/" ++ n)]) sm (sm.free nM)
        have hD1 := same_new (o := .lst [.str "order", .str (x ++ "/" ++ n)]) nM _ _ hD
        have hM1 := upd_same (H := H2) (a := M) (o := .lst [.str "order", .str (x ++ "/" ++ n)])
        generalize upd H2 M (.lst [.str "order", .str (x ++ "/" ++ n)]) = H3 at s1 hD1 hM1
        refine ⟨.ref D, rfl, by show 0 ≤ sizeLine; decide, fun E0 nE => ?_⟩
        have sE := same_new (o := .lst []) nE
        refine ⟨D, E0, ks.map sh, [], rfl, rfl, SqL.of (sE _ _ hD1), SqL.of upd_same, _, rfl, ?_⟩
        have kl := kst_le ks
        have fin : ∀ (L : Addr) (H4 : Hp), Same H3 H4 → H4 L = some (.lst ((ksT ks).map V.str)) → ∃ (a1 b1 : Addr) (xs1 ys1 : List V), V.ref M = .ref a1 ∧ V.ref L = .ref b1 ∧ H4 a1 = some (.lst xs1) ∧ H4 b1 = some (.lst ys1) ∧ xs1.length + ys1.length ≤ sizeLine ∧ ∀ p, H4 p = none → ∃ (a2 : Str) (p2 : Addr) (ys2 : List Str), V.str " " = .str a2 ∧ [V.ref p] = [.ref p2] ∧ (SqL K (upd H4 p (.lst (xs1 ++ ys1))) p2 (ys2.map V.str) ∨ SqT K (upd H4 p (.lst (xs1 ++ ys1))) p2 (ys2.map V.str)) ∧ (ys2.map (·.length)).sum + ys2.length * a2.length ≤ 16777216 ∧ Q (.str (Txt.join a2 ys2)) (upd H4 p (.lst (xs1 ++ ys1))) := fun L H4 s4 hL => by
          refine ⟨M, L, _, _, rfl, rfl, s4 _ _ hM1, hL, ?_, fun N nN => ?_⟩
          · rw [List.length_map]
            exact big_le (by show 2 + _ ≤ _; omega)
          · have s5 := s1.trans s4
            refine ⟨_, N, "order" :: (x ++ "/" ++ n) :: ksT ks, rfl, rfl, .inl (SqL.of ?_), sum_le hlen (by decide), q _ (same_put s5 (s5.free nN))⟩
            rw [upd_same]
            rfl
        cases ks with
        | nil => exact iteF ⟨by show 1 ≤ sizeLine; decide, fun L nL => fin L _ (sE.trans (same_new nL)) upd_same⟩
        | cons k r => exact iteT ⟨.ref D, rfl, fin D _ sE (sE _ _ hD1)⟩
end
end M91

set_option Elab.async false
set_option linter.all false
set_option maxRecDepth 100000
set_option maxHeartbeats 4000000
/-! is_word, is_name, is_string_part -/
namespace M91
open PySem PySem.Spec PyProof.Rows L2 GL
theorem scW : FnScope ["value", "letter"] ["value"] (defScope sIsWord) := ⟨rfl, rfl, rfl, by decide +kernel, rfl, by decide +kernel, by decide +kernel⟩
theorem scN : FnScope ["value"] ["value"] (defScope sIsName) := ⟨rfl, rfl, rfl, by decide +kernel, rfl, by decide +kernel, by decide +kernel⟩
theorem scIP : FnScope ["text", "sign"] ["text"] (defScope sIsPart) := ⟨rfl, rfl, rfl, by decide +kernel, rfl, by decide +kernel, by decide +kernel⟩
abbrev letters : Str := "abcdefghijklmnopqrstuvwxyz"
/-- all signs are letters -/
def low (z : Str) : Bool := z.cps.toList.all fun c => decide (c ∈ letters.cps.toList)
def isName (z : Str) : Bool := low z && (decide (1 ≤ z.length) && decide (z.length ≤ 12) && !decide (z ∈ kw))
theorem inS (z : Str) : ∀ l : List Str, inV (.str z) (l.map V.str) = decide (z ∈ l)
  | [] => rfl
  | y :: r => by
    have ih := inS z r
    unfold inV at ih ⊢
    rw [List.map_cons, List.any_cons, ih]
    show (y == z || decide (z ∈ r)) = _
    by_cases e : y = z
    · subst e
      simp
    · have e' : z ≠ y := fun q => e q.symm
      simp [e, e']
theorem flatS (l : List Str) : (l.map V.str).all flatV = true := by
  rw [List.all_map]
  exact List.all_eq_true.mpr fun _ _ => rfl
theorem take_bl {l : List Bool} {i : Nat} {b : Bool} (h : l[i]? = some b) : l.take (i + 1) = l.take i ++ [b] := by
  rw [List.take_add_one, h]
  rfl
section
variable {P : Program} {w : World} {K : PySem.W.Frag} {mg : Str → Option Value} {base : Heap}
def spWord : Sp := fun vs H Q _ => ∃ z : Str, vs = [.str z] ∧ z.length ≤ 1000 ∧ ∀ H', Same H H' → Q (.bl (!decide (z = "") && low z)) H'
theorem ok_word {f : Addr} {fd : FuncData} {k : Nat} (F : Fun K "is_word" "is_word" sIsWord f fd) (T : Bl K mg) : FnOk P w K mg base CX0 (k + 1) f fd ["value"] spWord := by
  refine F.ok scW (fun vs H Q E h => ?_) (fun cdv A outer s H vs Q E hr h => ?_)
  · obtain ⟨z, rfl, _⟩ := h
    rfl
  · obtain ⟨z, rfl, hz, q⟩ := h
    refine ⟨_, (pss_one (ps_ret (pe_and (pe_cmpR op_ne (pv 0) pe_str (nomark _)) (pe_one (pe_callB (cr_all rfl) (by rfl) T.all (by decide +kernel) (pa_cons (pe_lc (own := [("letter", 1)]) (g := gName 1) (by rfl) scW.nd (pi_str (pv 0)) (blkOk_by (own := [("letter", 1)]) (N := ["value", "letter"]) (sc := defScope sIsWord) (by decide +kernel)) (fun _ _ _ _ _ => (pg_name (i := 1) scW.nd rfl (Or.inl rfl))) (fun _ _ _ _ _ => pts_nil) (fun _ _ _ _ _ => (pe_cmpR op_in_sign (pv 1) (pe_glob (v := .str "abcdefghijklmnopqrstuvwxyz") (by rfl) T.cletters.choose_spec ⟨_, rfl⟩) (by rfl)))) pa_nil)))))), ?_⟩
    refine ⟨.str z, rfl, rfl, _, rfl, ite2 (fun e => ?_) (fun e => ?_)⟩
    · refine ⟨.str z, rfl, z, rfl, fun D nD => ?_⟩
      refine lc_it (walk_str (z := z)) (fun i H2 => Same H H2 ∧ H2 D = some (.lst (((z.cps.toList.map fun c => decide (c ∈ letters.cps.toList)).take i).map V.bl))) ⟨same_new nD, upd_same⟩ (fun _ _ _ _ => trivial) (fun i x H2 H3 hi hP hY => ?_) (fun H2 hP => ?_)
      · obtain ⟨sm, hD⟩ := hP
        obtain ⟨rfl, c, hc, rfl⟩ := hY
        have hc' : (z.cps.toList.map fun c => decide (c ∈ letters.cps.toList))[i]? = some (decide (c ∈ letters.cps.toList)) := by
          rw [List.getElem?_map, Array.getElem?_toList, hc]
          rfl
        have hi' : i < z.length := hi
        refine ⟨rfl, .str ⟨#[c]⟩, rfl, c, _, rfl, rfl, _, hD, ?_, same_put sm nD, ?_⟩
        · rw [List.length_map, List.length_take]
          exact Nat.lt_of_le_of_lt (Nat.min_le_left _ _) (small1000 (by omega))
        · rw [upd_same, take_bl hc', List.map_append]
          rfl
      · obtain ⟨sm, hD⟩ := hP
        rw [List.take_of_length_le (by rw [List.length_map, Array.length_toList]; exact Nat.le_refl _)] at hD
        refine ⟨D, _, rfl, SqL.of hD, ?_⟩
        have e2 : (!decide (z = "") && low z) = (z.cps.toList.map fun c => decide (c ∈ letters.cps.toList)).all id := by
          have : (!decide (z = "")) = true := by
            have e := e
            simpa using e
          rw [this, Bool.true_and, List.all_map]
          rfl
        rw [← e2]
        exact q H2 sm
    · have e2 : (!decide (z = "") && low z) = false := by
        have : (!decide (z = "")) = false := by
          have e := e
          simpa using e
        rw [this, Bool.false_and]
      have := q H (Same.refl H)
      rw [e2] at this
      exact this

theorem isName_kw {z : Str} (h : low z = true) (hn : z ≠ "") : isName z = (decide ((z.length : Int) ≤ 12) && !decide (z ∈ kw)) := by
  have h1 : 1 ≤ z.length := by
    cases e : z.length with
    | zero =>
      exfalso
      apply hn
      obtain ⟨c⟩ := z
      have : c = #[] := Array.eq_empty_of_size_eq_zero e
      rw [this]
      rfl
    | succ n => omega
  unfold isName
  rw [h, decide_eq_true h1, Bool.true_and, Bool.true_and]
  congr 1
  by_cases e : z.length ≤ 12
  · rw [decide_eq_true e, decide_eq_true (by omega)]
  · rw [decide_eq_false e, decide_eq_false (by omega)]
def spNm : Sp := fun vs H Q _ => ∃ z : Str, vs = [.str z] ∧ z.length ≤ 1000 ∧ ∀ H', Same H H' → Q (.bl (isName z)) H'
theorem ok_name {f : Addr} {fd : FuncData} (F : Fun K "is_name" "is_name" sIsName f fd) (T : Bl K mg) (d_is_word : DnO P w K mg base "is_word" 1 ["value"] spWord) : FnOk P w K mg base CX0 2 f fd ["value"] spNm := by
  refine F.ok scN (fun vs H Q E h => ?_) (fun cdv A outer s H vs Q E hr h => ?_)
  · obtain ⟨v, rfl, _⟩ := h
    rfl
  · obtain ⟨z, rfl, hz, q⟩ := h
    refine ⟨_, (pss_cons (ps_if (PW.pt (pw_or (pt_not (pt_val (pe_callB call_isi (by rfl) T.isinstance (by decide +kernel) (pa_cons (pv 0) (pa_cons (pe_bltn (v := .ty "str") (by rfl) T.str (by decide +kernel) rfl) pa_nil))))) (pw_or1 (pt_not (pt_val (pe_call d_is_word.ok (hr.mono (by omega)) (by rfl) d_is_word.g d_is_word.kp d_is_word.b .nil pass0 (pa_cons (pv 0) pa_nil)))))))
        (pss_one (ps_ret pe_bl))
        pss_nil)
      (pss_one (ps_ret (pe_and (pe_cmpR op_le (pe_callB call_len_str (by rfl) T.len (by decide +kernel) (pa_cons (pv 0) pa_nil)) (pe_glob (v := .int 12) (by rfl) T.cmostletters.choose_spec ⟨_, rfl⟩) (nomark _)) (pe_one (pe_cmpR (r := rIn K true) op_notIn_seq (pv 0) (pe_glob (v := .ref T.ckeywords.choose) (by rfl) T.ckeywords.choose_spec.1 rfl) (by rfl))))))), ?_⟩
    refine ⟨.str z, rfl, .str z, .ty "str", _, _, true, rfl, .ty "str", .base (.str z), kit_ty kSS, true, rfl, ?_⟩
    refine ⟨.str z, rfl, z, rfl, hz, fun H1 sm => ⟨_, rfl, ?_⟩⟩
    refine ite2 (fun e => ?_) (fun e => ?_)
    · have e1 : (!decide (z = "") && low z) = false := (Bool.not_eq_true' _).mp e
      have e2 : isName z = false := by
        by_cases hl : low z = true
        · rw [hl, Bool.and_true] at e1
          have : z = "" := by simpa using e1
          subst this
          rfl
        · have : low z = false := by simpa using hl
          unfold isName
          rw [this, Bool.false_and]
      have := q H1 sm
      rw [e2] at this
      exact this
    · have e1 : (!decide (z = "") && low z) = true := by simpa using e
      obtain ⟨e3, e4⟩ := Bool.and_eq_true_iff.mp e1
      have e5 : z ≠ "" := by simpa using e3
      have e6 := isName_kw e4 e5
      refine ⟨.str z, rfl, z, rfl, Nat.le_of_lt (small1000 hz), _, 12, rfl, rfl, _, rfl, ite2 (fun g => ?_) (fun g => ?_)⟩
      · refine ⟨.str z, rfl, T.ckeywords.choose, kwV, rfl, .inr (T.ckeywords.choose_spec.2 _), rfl, flatS kw, ?_⟩
        show Q (.bl (!inV (.str z) (kw.map V.str))) H1
        rw [inS]
        have e7 : isName z = !decide (z ∈ kw) := by rw [e6, g, Bool.true_and]
        rw [← e7]
        exact q H1 sm
      · have g' : decide ((z.length : Int) ≤ 12) = false := by simpa using g
        have e7 : isName z = false := by rw [e6, g', Bool.false_and]
        have := q H1 sm
        rw [e7] at this
        exact this
/-- what may stand between quotes -/
def Part (z : Str) : Prop := z.length ≤ 60 ∧ ∀ c ∈ cs z, 32 ≤ c ∧ c ≤ 126 ∧ c ≠ 34 ∧ c ≠ 92
def spPart : Sp := fun vs H Q _ => ∃ z : Str, vs = [.str z] ∧ Part z ∧ ∀ H', Same H H' → Q (.bl true) H'
theorem ok_part {f : Addr} {fd : FuncData} (F : Fun K "is_string_part" "is_string_part" sIsPart f fd) (T : Bl K mg) : FnOk P w K mg base CX0 1 f fd ["text"] spPart := by
  refine F.ok scIP (fun vs H Q E h => ?_) (fun cdv A outer s H vs Q E hr h => ?_)
  · obtain ⟨v, rfl, _⟩ := h
    rfl
  · obtain ⟨z, rfl, hz, q⟩ := h
    refine ⟨_, (pss_cons (ps_if (pt_cmpR op_gt (pe_callB call_len_str (by rfl) T.len (by decide +kernel) (pa_cons (pv 0) pa_nil)) (pe_glob (v := .int 60) (by rfl) T.cmostinstring.choose_spec ⟨_, rfl⟩) (nomark _))
        (pss_one (ps_ret pe_bl))
        pss_nil)
      (pss_one (ps_ret (pe_callB (cr_all rfl) (by rfl) T.all (by decide +kernel) (pa_cons (pe_lc (own := [("sign", 1)]) (g := gName 1) (by rfl) scIP.nd (pi_str (pv 0)) (blkOk_by (own := [("sign", 1)]) (N := ["text", "sign"]) (sc := defScope sIsPart) (by decide +kernel)) (fun _ _ _ _ _ => (pg_name (i := 1) scIP.nd rfl (Or.inl rfl))) (fun _ _ _ _ _ => pts_nil) (fun _ _ _ _ _ => (pe_and (pe_chain op_le op_le (pe_glob (v := .int 32) (by rfl) T.cleastcode.choose_spec ⟨_, rfl⟩) (pe_callB call_ord (by rfl) T.ord (by decide +kernel) (pa_cons (pv 1) pa_nil)) (pe_glob (v := .int 126) (by rfl) T.cmostcode.choose_spec ⟨_, rfl⟩)) (pe_one (pe_cmpR (r := rIn K true) op_notIn_seq (pv 1) (pe_tup (pa_cons (pe_glob (v := .str "\"") (by rfl) T.cquote.choose_spec ⟨_, rfl⟩) (pa_cons (pe_glob (v := .str "\\") (by rfl) T.cbackslash.choose_spec ⟨_, rfl⟩) pa_nil))) (by rfl)))))) pa_nil))))), ?_⟩
    have hl := hz.1
    refine ⟨.str z, rfl, z, rfl, big_le (by omega), _, 60, rfl, rfl, _, rfl, ?_⟩
    have e0 : decide ((z.length : Int) > 60) = false := decide_eq_false (by omega)
    rw [e0]
    refine iteF ?_
    refine ⟨.str z, rfl, z, rfl, fun D nD => ?_⟩
    refine lc_it (walk_str (z := z)) (fun i H2 => Same H H2 ∧ H2 D = some (.lst ((List.replicate i true).map V.bl))) ⟨same_new nD, upd_same⟩ (fun _ _ _ _ => trivial) (fun i x H2 H3 hi hP hY => ?_) (fun H2 hP => ?_)
    · obtain ⟨sm, hD⟩ := hP
      obtain ⟨rfl, c, hc, rfl⟩ := hY
      have hm : c ∈ cs z := by
        have : z.cps.toList[i]? = some c := by rw [Array.getElem?_toList]; exact hc
        exact List.mem_of_getElem? this
      obtain ⟨c1, c2, c3, c4⟩ := hz.2 c hm
      have hi' : i < z.length := hi
      refine ⟨rfl, .str ⟨#[c]⟩, rfl, ⟨#[c]⟩, rfl, rfl, 32, (c : Int), rfl, rfl, _, rfl, ?_⟩
      rw [decide_eq_true (show (32 : Int) ≤ (c : Int) by omega)]
      refine iteT ?_
      refine ⟨(c : Int), 126, rfl, rfl, _, rfl, ?_⟩
      rw [decide_eq_true (show (c : Int) ≤ 126 by omega)]
      refine iteT ?_
      refine ⟨.str ⟨#[c]⟩, rfl, by show 2 ≤ sizeLine; decide, fun p np => ?_⟩
      refine ⟨p, _, rfl, .inr (SqT.of upd_same), rfl, rfl, ?_⟩
      have e1 : (!inV (.str ⟨#[c]⟩) ([("\"" : Str), "\\"].map V.str)) = true := by
        rw [inS]
        have : (⟨#[c]⟩ : Str) ∉ [("\"" : Str), "\\"] := fun hm => by
          rcases List.mem_cons.mp hm with e | hm
          · have : cs (⟨#[c]⟩ : Str) = [34] := by rw [e]; rfl
            have : [c] = [34] := this
            exact c3 (by simpa using this)
          · rcases List.mem_cons.mp hm with e | hm
            · have : cs (⟨#[c]⟩ : Str) = [92] := by rw [e]; rfl
              have : [c] = [92] := this
              exact c4 (by simpa using this)
            · cases hm
        rw [decide_eq_false this]
        rfl
      have Dp : D ≠ p := ne_of_none hD np
      refine ⟨_, by rw [upd_ne Dp]; exact hD, ?_, same_put (same_put sm (sm.free np)) nD, ?_⟩
      · rw [List.length_map, List.length_replicate]
        exact Nat.lt_of_lt_of_le (by omega) (big_le (n := 1000) (by decide))
      · rw [upd_same]
        show some (HO.lst (_ ++ [V.bl (!inV (.str ⟨#[c]⟩) ([("\"" : Str), "\\"].map V.str))])) = _
        rw [e1, List.replicate_succ', List.map_append]
        rfl
    · obtain ⟨sm, hD⟩ := hP
      refine ⟨D, _, rfl, SqL.of hD, ?_⟩
      have e2 : (List.replicate z.length true).all id = true := by simp
      show Q (.bl ((List.replicate z.length true).all id)) H2
      rw [e2]
      exact q H2 sm
end
end M91

set_option Elab.async false
set_option linter.all false
set_option maxRecDepth 100000
set_option maxHeartbeats 4000000
/-! pieces -/
namespace M91
open PySem PySem.Spec PyProof.Rows L2 GL
theorem scPI : FnScope ["text", "mark", "found", "start", "at", "is_inside"] ["text", "mark"] (defScope sPieces) := ⟨rfl, rfl, rfl, by decide +kernel, rfl, by decide +kernel, by decide +kernel⟩
/-- the pieces of t between marks m that stand outside of quotes; cur: what the piece has so far -/
def pz (m : List Nat) : Nat → List Nat → List Nat → Bool → List (List Nat)
  | 0, _, cur, _ => [cur]
  | _ + 1, [], cur, _ => [cur]
  | n + 1, c :: r, cur, ins => if (!(ins != (c == 34)) && decide ((c :: r).take m.length = m)) = true then cur :: pz m n ((c :: r).drop m.length) [] (ins != (c == 34)) else pz m n r (cur ++ [c]) (ins != (c == 34))
theorem pz_step (m : List Nat) (n c : Nat) (r cur : List Nat) (ins : Bool) : pz m (n + 1) (c :: r) cur ins = if (!(ins != (c == 34)) && decide ((c :: r).take m.length = m)) = true then cur :: pz m n ((c :: r).drop m.length) [] (ins != (c == 34)) else pz m n r (cur ++ [c]) (ins != (c == 34)) := rfl
def S (l : List Nat) : Str := ⟨l.toArray⟩
theorem cs_S (l : List Nat) : cs (S l) = l := by
  show l.toArray.toList = l
  rw [List.toList_toArray]
theorem S_cs (z : Str) : S (cs z) = z := str_ext (cs_S _)
theorem S_inj {a b : List Nat} (h : S a = S b) : a = b := by
  rw [← cs_S a, ← cs_S b, h]
theorem len_cs (z : Str) : z.length = (cs z).length := by
  show z.cps.size = _
  rw [Array.length_toList]
theorem cut_S (z : Str) (i j : Nat) (h : i ≤ j) (hj : j ≤ z.length) : cutS z (some (i : Int)) (some (j : Int)) = S (((cs z).drop i).take (j - i)) := by
  unfold cutS S
  rw [HT.sIx_nat, HT.sIx_nat, Nat.min_eq_left hj, Nat.min_eq_left (Nat.le_trans h hj)]
theorem cut_S' (z : Str) (i j : Nat) (h : i ≤ z.length) (hij : i ≤ j) : cutS z (some (i : Int)) (some (j : Int)) = S (((cs z).drop i).take (j - i)) := by
  unfold cutS S
  rw [HT.sIx_nat, HT.sIx_nat, Nat.min_eq_left h]
  congr 2
  by_cases hj : j ≤ z.length
  · rw [Nat.min_eq_left hj]
  · have e1 : min j z.length = z.length := Nat.min_eq_right (by omega)
    rw [e1, List.take_of_length_le (by rw [List.length_drop, ← len_cs]; omega), List.take_of_length_le (by rw [List.length_drop, ← len_cs]; omega)]
theorem cut_end (z : Str) (i : Nat) (h : i ≤ z.length) : cutS z (some (i : Int)) none = S ((cs z).drop i) := by
  unfold cutS S
  rw [HT.sIx_nat, HT.sIx_none, Nat.min_eq_left h]
  congr 1
  rw [List.take_of_length_le (by rw [List.length_drop, ← len_cs]; omega)]
theorem pz_fuel (m : List Nat) (hm : 1 ≤ m.length) : ∀ (n k : Nat) (t cur : List Nat) (ins : Bool), t.length < n → t.length < k → pz m n t cur ins = pz m k t cur ins
  | 0, _, _, _, _, h, _ => absurd h (Nat.not_lt_zero _)
  | _, 0, _, _, _, _, h => absurd h (Nat.not_lt_zero _)
  | n + 1, k + 1, [], _, _, _, _ => rfl
  | n + 1, k + 1, c :: r, cur, ins, h1, h2 => by
    have h1 : r.length + 1 < n + 1 := h1
    have h2 : r.length + 1 < k + 1 := h2
    have l : ((c :: r).drop m.length).length ≤ r.length := by
      rw [List.length_drop, List.length_cons]
      omega
    unfold pz
    rw [pz_fuel m hm n k ((c :: r).drop m.length) [] _ (by omega) (by omega), pz_fuel m hm n k r (cur ++ [c]) _ (by omega) (by omega)]
theorem ins_eq (ins : Bool) (c : Nat) : (!decide (V.bl ins = V.bl (decide (V.str ⟨#[c]⟩ = V.str "\"")))) = (ins != (c == 34)) := by
  have e : decide (V.str ⟨#[c]⟩ = V.str "\"") = (c == 34) := by
    by_cases h : c = 34
    · subst h
      rfl
    · have h1 : (c == 34) = false := by simpa using h
      rw [h1]
      refine decide_eq_false fun z => h ?_
      have z : (⟨#[c]⟩ : Str) = "\"" := by injection z
      have : cs (⟨#[c]⟩ : Str) = [34] := by rw [z]; rfl
      have : [c] = [34] := this
      simpa using this
  rw [e]
  cases ins <;> cases (c == 34) <;> rfl
section
variable {P : Program} {w : World} {K : PySem.W.Frag} {mg : Str → Option Value} {base : Heap}
def spPieces : Sp := fun vs H Q _ => ∃ (z m : Str), vs = [.str z, .str m] ∧ 1 ≤ m.length ∧ m.length ≤ 100 ∧ z.length ≤ 15000000 ∧ ∀ (H' : Hp) (L : Addr), Same H H' → H L = none → H' L = some (.lst (((pz (cs m) (z.length + 1) (cs z) [] false).map S).map V.str)) → Q (.ref L) H'
theorem ok_pieces {f : Addr} {fd : FuncData} (F : Fun K "pieces" "pieces" sPieces f fd) (T : Bl K mg) : FnOk P w K mg base CX0 1 f fd ["text", "mark"] spPieces := by
  refine F.ok scPI (fun vs H Q E h => ?_) (fun cdv A outer s H vs Q E hr h => ?_)
  · obtain ⟨z, m, rfl, _⟩ := h
    rfl
  · obtain ⟨z, m, rfl, m1, m2, hz, q⟩ := h
    have szz : z.length ≤ sizeLine := Nat.le_trans hz (by decide)
    have szm : m.length ≤ sizeLine := big_le (by omega)
    refine ⟨_, (pss_cons (ps_asg (pe_tup (pa_cons (pe_lst pa_nil) (pa_cons pe_int (pa_cons pe_int (pa_cons pe_bl pa_nil))))) (pg_tup rfl (pgs_cons (pg_name (i := 2) scPI.nd rfl (Or.inl rfl)) (pgs_cons (pg_name (i := 3) scPI.nd rfl (Or.inl rfl)) (pgs_cons (pg_name (i := 4) scPI.nd rfl (Or.inl rfl)) (pgs_cons (pg_name (i := 5) scPI.nd rfl (Or.inl rfl)) pgs_nil))))))
      (pss_cons (ps_while PassesOwn.never (pt_cmpR op_lt (pv 4) (pe_callB call_len_str (by rfl) T.len (by decide +kernel) (pa_cons (pv 0) pa_nil)) (nomark _))
        (pss_cons (ps_set (i := 5) scPI.nd rfl (Or.inl rfl) (pe_cmpR op_ne (pv 5) (pe_cmpR op_eq (pe_ix ix_str (pv 0) (pv 4) (fun _ _ => rfl)) (pe_glob (v := .str "\"") (by rfl) T.cquote.choose_spec ⟨_, rfl⟩) (nomark _)) (nomark _)))
        (pss_one (ps_if (PW.pt (pw_and (pt_not (pt_val (pv 5))) (pw_and1 (pt_cmpR op_eq (pe_slice sl_str (pv 0) (po_some (pv 4)) (po_some (pe_op op_add (pv 4) (pe_callB call_len_str (by rfl) T.len (by decide +kernel) (pa_cons (pv 1) pa_nil))))) (pv 1) (nomark _)))))
          (pss_cons (ps_expr (pe_bm PySem.F.plainAttrs_list PySem.F.slot_list_append PySem.F.type_list_append mt_append (pv 2) (pa_cons (pe_slice sl_str (pv 0) (po_some (pv 3)) (po_some (pv 4))) pa_nil)))
          (pss_cons (ps_aug (i := 4) scPI.nd rfl (Or.inl rfl) (pe_callB call_len_str (by rfl) T.len (by decide +kernel) (pa_cons (pv 1) pa_nil)) ip_add)
          (pss_one (ps_set (i := 3) scPI.nd rfl (Or.inl rfl) (pv 4)))))
          (pss_one (ps_aug (i := 4) scPI.nd rfl (Or.inl rfl) pe_int ip_add))))))
      (pss_one (ps_ret (pe_lst (StX.pa_star (pv 2) (pa_cons (pe_slice sl_str (pv 0) (po_some (pv 3)) po_none) pa_nil))))))), ?_⟩
    refine ⟨Nat.zero_le _, fun D nD => ⟨by show 4 ≤ sizeLine; decide, fun tp ntp => ?_⟩⟩
    refine ⟨tp, _, rfl, SqT.of upd_same, rfl, _, _, rfl, _, _, rfl, _, _, rfl, _, _, rfl, rfl, ?_⟩
    have eD : (upd (upd H D (.lst [])) tp (.tup [.ref D, .int 0, .int 0, .bl false])) D = some (.lst []) := by
      rw [upd_ne (ne_of_none upd_same ntp)]
      exact upd_same
    have sD : Same H (upd (upd H D (.lst [])) tp (.tup [.ref D, .int 0, .int 0, .bl false])) := same_put (same_new nD) ((same_new nD).free ntp)
    refine ⟨fun k σ H2 => ∃ (fs : List (List Nat)) (st at_ : Nat) (ins : Bool), σ = [some (.str z), some (.str m), some (.ref D), some (.int st), some (.int at_), some (.bl ins)] ∧ Same H H2 ∧ H2 D = some (.lst ((fs.map S).map V.str)) ∧ st ≤ at_ ∧ fs.length ≤ st ∧
        k = z.length + 1 - at_ ∧ at_ ≤ z.length ∧ fs ++ pz (cs m) k ((cs z).drop at_) (((cs z).drop st).take (at_ - st)) ins = pz (cs m) (z.length + 1) (cs z) [] false, ⟨z.length + 1, [], 0, 0, false, rfl, sD, eD, Nat.le_refl _, Nat.le_refl _, rfl, by omega, rfl⟩, fun k σ H2 h => ?_⟩
    obtain ⟨fs, st, at_, ins, rfl, sm, hD, hst, hfs, rfl, hat, hz2⟩ := h
    refine ⟨.int at_, rfl, .str z, rfl, z, rfl, szz, _, _, rfl, rfl, _, rfl, ite2 (fun e => ?_) (fun e => ?_)⟩
    · have hlt : at_ < z.length := by
        have : ((at_ : Nat) : Int) < (z.length : Nat) := of_decide_eq_true e
        omega
      have hltc : at_ < (cs z).length := by rw [← len_cs]; exact hlt
      have hdrop : (cs z).drop at_ = (cs z)[at_] :: (cs z).drop (at_ + 1) := List.drop_eq_getElem_cons hltc
      generalize hc : (cs z)[at_] = c at hdrop
      have hc2 : (cs z)[at_]? = some c := by rw [List.getElem?_eq_getElem hltc, hc]
      refine ⟨fun σ' H' => ∃ m', m' < z.length + 1 - at_ ∧ (∃ (fs : List (List Nat)) (st at_ : Nat) (ins : Bool), σ' = [some (.str z), some (.str m), some (.ref D), some (.int st), some (.int at_), some (.bl ins)] ∧ Same H H' ∧ H' D = some (.lst ((fs.map S).map V.str)) ∧ st ≤ at_ ∧ fs.length ≤ st ∧
        m' = z.length + 1 - at_ ∧ at_ ≤ z.length ∧ fs ++ pz (cs m) m' ((cs z).drop at_) (((cs z).drop st).take (at_ - st)) ins = pz (cs m) (z.length + 1) (cs z) [] false), fun _ _ h => h, ?_⟩
      refine ⟨.bl ins, rfl, .str z, rfl, .int at_, rfl, z, _, c, rfl, rfl, szz, atI_nat hc2, rfl, rfl, ?_⟩
      rw [ins_eq]
      have hf : z.length + 1 - at_ = (z.length + 1 - (at_ + 1)) + 1 := by omega
      rw [hdrop, hf] at hz2
      rw [pz_step] at hz2
      generalize hi : (ins != (c == 34)) = i2 at hz2
      have lz : (cs z).length = z.length := (len_cs z).symm
      have lr : ((cs z).drop (at_ + 1)).length = z.length - (at_ + 1) := by rw [List.length_drop, lz]
      have cur : ((cs z).drop st).take (at_ + 1 - st) = ((cs z).drop st).take (at_ - st) ++ [c] := by
        have e1 : at_ + 1 - st = (at_ - st) + 1 := by omega
        have e2 : ((cs z).drop st)[at_ - st]? = some c := by
          rw [List.getElem?_drop]
          have : st + (at_ - st) = at_ := by omega
          rw [this]
          exact hc2
        rw [e1, List.take_add_one, e2]
        rfl
      have fit : fs.length < sizeLine := Nat.lt_of_le_of_lt (by omega : fs.length ≤ 15000000) (by decide)
      have next : ¬ ((!i2 && decide ((c :: (cs z).drop (at_ + 1)).take (cs m).length = cs m)) = true) → ∃ m', m' < z.length + 1 - at_ ∧ (∃ (fs2 : List (List Nat)) (st2 at2 : Nat) (ins2 : Bool), [some (V.str z), some (.str m), some (.ref D), some (.int st), some (.int ((at_ : Int) + 1)), some (.bl i2)] = [some (.str z), some (.str m), some (.ref D), some (.int st2), some (.int at2), some (.bl ins2)] ∧ Same H H2 ∧ H2 D = some (.lst ((fs2.map S).map V.str)) ∧ st2 ≤ at2 ∧ fs2.length ≤ st2 ∧
          m' = z.length + 1 - at2 ∧ at2 ≤ z.length ∧ fs2 ++ pz (cs m) m' ((cs z).drop at2) (((cs z).drop st2).take (at2 - st2)) ins2 = pz (cs m) (z.length + 1) (cs z) [] false) := fun hn => by
        rw [if_neg hn] at hz2
        refine ⟨z.length + 1 - (at_ + 1), by omega, fs, st, at_ + 1, i2, rfl, sm, hD, by omega, hfs, rfl, by omega, ?_⟩
        rw [cur]
        exact hz2
      refine ⟨.bl i2, rfl, i2, rfl, ?_⟩
      cases i2 with
      | true =>
        refine iteF ?_
        exact ⟨.int at_, rfl, (at_ : Int), 1, rfl, rfl, next (by simp)⟩
      | false =>
        refine iteT ?_
        refine ⟨.str z, rfl, .int at_, rfl, (at_ : Int), rfl, .int at_, rfl, .str m, rfl, m, rfl, szm, (at_ : Int), (m.length : Int), rfl, rfl, _, rfl, z, rfl, szz, .str m, rfl, rfl, _, rfl, ite2 (fun e2 => ?_) (fun e2 => ?_)⟩
        · have e3 : V.str (cutS z (some (at_ : Int)) (some ((at_ : Int) + (m.length : Nat)))) = V.str m := of_decide_eq_true e2
          have e4 : cutS z (some (at_ : Int)) (some (((at_ + m.length : Nat)) : Int)) = m := by injection e3
          rw [cut_S' z at_ (at_ + m.length) hat (by omega)] at e4
          have e5 : ((cs z).drop at_).take m.length = cs m := by
            have := congrArg cs e4
            rw [cs_S, show at_ + m.length - at_ = m.length by omega] at this
            exact this
          have lm : at_ + m.length ≤ z.length := by
            have := congrArg List.length e5
            rw [List.length_take, List.length_drop, lz, ← len_cs] at this
            omega
          have hy : (!false && decide ((c :: (cs z).drop (at_ + 1)).take (cs m).length = cs m)) = true := by
            rw [← hdrop, ← len_cs, e5]
            simp
          rw [if_pos hy, ← hdrop, List.drop_drop, ← len_cs] at hz2
          refine ⟨.ref D, rfl, .inl ⟨rfl, _, SqL.of hD⟩, .str z, rfl, .int st, rfl, (st : Int), rfl, .int at_, rfl, (at_ : Int), rfl, z, rfl, szz, D, _, _, rfl, rfl, hD, by rw [List.length_map, List.length_map]; exact fit, ?_⟩
          refine ⟨.int at_, rfl, .str m, rfl, m, rfl, szm, (at_ : Int), (m.length : Int), rfl, rfl, .int ((at_ + m.length : Nat) : Int), rfl, ?_⟩
          refine ⟨z.length + 1 - (at_ + m.length), by omega, fs ++ [((cs z).drop st).take (at_ - st)], at_ + m.length, at_ + m.length, false, rfl, same_put sm nD, ?_, Nat.le_refl _, ?_, rfl, lm, ?_⟩
          · rw [upd_same, cut_S z st at_ hst hat, List.map_append, List.map_append]
            rfl
          · rw [List.length_append]
            show fs.length + 1 ≤ _
            omega
          · rw [← hz2, Nat.sub_self, List.take_zero, List.append_assoc]
            congr 1
            show _ :: _ = _ :: _
            congr 1
            exact pz_fuel (cs m) (by rw [← len_cs]; exact m1) _ _ _ _ _ (by rw [List.length_drop, lz]; omega) (by rw [List.length_drop, lz]; omega)
        · refine ⟨.int at_, rfl, (at_ : Int), 1, rfl, rfl, next fun hy => ?_⟩
          have e3 : ¬ V.str (cutS z (some (at_ : Int)) (some ((at_ : Int) + (m.length : Nat)))) = V.str m := of_decide_eq_false (by simpa using e2)
          apply e3
          have hy : (c :: (cs z).drop (at_ + 1)).take (cs m).length = cs m := by simpa using hy
          rw [← hdrop, ← len_cs] at hy
          have e4 := cut_S' z at_ (at_ + m.length) hat (by omega)
          have e5 : at_ + m.length - at_ = m.length := by omega
          rw [e5, hy, S_cs] at e4
          show V.str (cutS z (some (at_ : Int)) (some (((at_ + m.length : Nat)) : Int))) = _
          rw [e4]
    · have heq : at_ = z.length := by
        have : ¬ ((at_ : Nat) : Int) < (z.length : Nat) := of_decide_eq_false (by simpa using e)
        omega
      subst heq
      have lz : (cs z).length = z.length := (len_cs z).symm
      have hz3 : fs ++ [(cs z).drop st] = pz (cs m) (z.length + 1) (cs z) [] false := by
        have e1 : (cs z).drop z.length = [] := List.drop_of_length_le (by rw [lz]; exact Nat.le_refl _)
        have e2 : ((cs z).drop st).take (z.length - st) = (cs z).drop st := List.take_of_length_le (by rw [List.length_drop, lz]; exact Nat.le_refl _)
        rw [← hz2, e1, e2, show z.length + 1 - z.length = 1 by omega]
        rfl
      refine ⟨.ref D, rfl, D, _, rfl, .inr (SqL.of hD), .str z, rfl, .int st, rfl, (st : Int), rfl, z, rfl, szz, ?_, fun L nL => ?_⟩
      · rw [List.length_append, List.length_map, List.length_map]
        show fs.length + 1 ≤ sizeLine
        exact Nat.le_trans (by omega : fs.length + 1 ≤ 15000001) (by decide)
      · refine q _ L (same_put sm (sm.free nL)) (sm.free nL) ?_
        rw [upd_same, ← hz3, cut_end z st hst, List.map_append, List.map_append]
        rfl
end
end M91

set_option Elab.async false
set_option linter.all false
set_option maxRecDepth 100000
set_option maxHeartbeats 4000000
/-! joined words fall apart into the same words -/
namespace M91
open PySem PySem.Spec PyProof.Rows L2 GL
/-- outside of quotes no c stands in it; behind it: inside? -/
def sl (c : Nat) : Bool → List Nat → Option Bool
  | ins, [] => some ins
  | ins, x :: r => if (!(ins != (x == 34)) && x == c) = true then none else sl c (ins != (x == 34)) r
theorem sl_cons (c : Nat) (ins : Bool) (x : Nat) (r : List Nat) : sl c ins (x :: r) = if (!(ins != (x == 34)) && x == c) = true then none else sl c (ins != (x == 34)) r := rfl
abbrev Sealed (c : Nat) (w : List Nat) : Prop := sl c false w = some false
theorem sl_app (c : Nat) : ∀ (a b : List Nat) (i j : Bool), sl c i a = some j → sl c i (a ++ b) = sl c j b
  | [], b, i, j, h => by
    have : i = j := Option.some.inj h
    rw [this]
    rfl
  | x :: r, b, i, j, h => by
    rw [sl_cons] at h
    rw [List.cons_append, sl_cons]
    split at h
    · cases h
    · rename_i hn
      rw [if_neg hn]
      exact sl_app c r b _ j h
theorem Sealed.app {c : Nat} {a b : List Nat} (h : Sealed c a) (g : Sealed c b) : Sealed c (a ++ b) := (sl_app c a b false false h).trans g
theorem sealed_plain {c : Nat} : ∀ {w : List Nat}, (∀ x ∈ w, x ≠ 34 ∧ x ≠ c) → Sealed c w
  | [], _ => rfl
  | x :: r, h => by
    obtain ⟨h1, h2⟩ := h x (List.mem_cons_self ..)
    have e1 : (x == 34) = false := by simpa using h1
    have e2 : (x == c) = false := by simpa using h2
    show sl c false (x :: r) = _
    unfold sl
    rw [e1, e2]
    exact sealed_plain fun y hy => h y (List.mem_cons_of_mem _ hy)
theorem sl_in {c : Nat} : ∀ {w : List Nat}, (∀ x ∈ w, x ≠ 34) → sl c true w = some true
  | [], _ => rfl
  | x :: r, h => by
    have e1 : (x == 34) = false := by simpa using h x (List.mem_cons_self ..)
    unfold sl
    rw [e1]
    exact sl_in fun y hy => h y (List.mem_cons_of_mem _ hy)
/-- a text between quotes -/
theorem sealed_quoted {c : Nat} (hc : c ≠ 34) {w : List Nat} (h : ∀ x ∈ w, x ≠ 34) : Sealed c (34 :: (w ++ [34])) := by
  show sl c false (34 :: (w ++ [34])) = _
  unfold sl
  show sl c true (w ++ [34]) = some false
  rw [sl_app c w [34] true true (sl_in h)]
  unfold sl
  have : ((34 : Nat) == c) = false := by
    have : (34 : Nat) ≠ c := fun e => hc e.symm
    simpa using this
  rw [this]
  rfl
theorem pz_run (c : Nat) (m' : List Nat) : ∀ (w t cur : List Nat) (ins j : Bool) (n : Nat), sl c ins w = some j → pz (c :: m') (n + w.length) (w ++ t) cur ins = pz (c :: m') n t (cur ++ w) j
  | [], t, cur, ins, j, n, h => by
    have : ins = j := Option.some.inj h
    rw [this, List.append_nil]
    rfl
  | x :: r, t, cur, ins, j, n, h => by
    unfold sl at h
    split at h
    · cases h
    · rename_i hn
      have e : n + (x :: r).length = (n + r.length) + 1 := by
        rw [List.length_cons]
        omega
      rw [e]
      show pz (c :: m') (n + r.length + 1) (x :: (r ++ t)) cur ins = _
      rw [pz_step, if_neg, pz_run c m' r t (cur ++ [x]) _ j n h, List.append_assoc]
      · rfl
      · intro hy
        apply hn
        have ⟨y1, y2⟩ := Bool.and_eq_true_iff.mp hy
        have y3 := of_decide_eq_true y2
        rw [List.length_cons, List.take_succ_cons] at y3
        have : x = c := (List.cons.inj y3).1
        rw [y1, this]
        simp
theorem pz_mark (c : Nat) (hc : c ≠ 34) (m' r cur : List Nat) (n : Nat) : pz (c :: m') (n + 1) (c :: m' ++ r) cur false = cur :: pz (c :: m') n r [] false := by
  show pz (c :: m') (n + 1) (c :: (m' ++ r)) cur false = _
  have e : (c == 34) = false := by simpa using hc
  rw [pz_step, if_pos, e]
  · have : (c :: (m' ++ r)).drop (c :: m').length = r := by
      rw [List.length_cons, List.drop_succ_cons, List.drop_left]
    rw [this]
    rfl
  · rw [e]
    have : (c :: (m' ++ r)).take (c :: m').length = c :: m' := by
      rw [List.length_cons, List.take_succ_cons, List.take_left]
    rw [this]
    simp
theorem jn_len (s : List Nat) : ∀ ws : List (List Nat), True := fun _ => trivial
/-- THE LAW: words joined by a mark fall apart again -/
theorem pz_jn (c : Nat) (hc : c ≠ 34) (m' : List Nat) : ∀ (ws : List (List Nat)) (n : Nat), ws ≠ [] → (∀ w ∈ ws, Sealed c w) → (jn (c :: m') ws).length < n → pz (c :: m') n (jn (c :: m') ws) [] false = ws
  | [], _, h, _, _ => absurd rfl h
  | [w], n, _, h, hn => by
    have hw := h w (List.mem_cons_self ..)
    have hn : w.length < n := hn
    obtain ⟨k, rfl⟩ : ∃ k, n = (k + 1) + w.length := ⟨n - 1 - w.length, by omega⟩
    show pz (c :: m') (k + 1 + w.length) w [] false = [w]
    have := pz_run c m' w [] [] false false (k + 1) hw
    rw [List.append_nil] at this
    rw [this]
    rfl
  | w :: y :: r, n, _, h, hn => by
    have hw := h w (List.mem_cons_self ..)
    have e : jn (c :: m') (w :: y :: r) = w ++ ((c :: m') ++ jn (c :: m') (y :: r)) := by
      show w ++ (c :: m') ++ jn (c :: m') (y :: r) = _
      rw [List.append_assoc]
    rw [e] at hn ⊢
    rw [List.length_append, List.length_append, List.length_cons] at hn
    obtain ⟨k, rfl⟩ : ∃ k, n = (k + 1) + w.length := ⟨n - 1 - w.length, by omega⟩
    rw [pz_run c m' w _ [] false false (k + 1) hw, pz_mark c hc m' _ _ k, pz_jn c hc m' (y :: r) k (by simp) (fun v hv => h v (List.mem_cons_of_mem _ hv)) (by omega)]
    rfl
/-! ### words within words -/
theorem jn_app (s : List Nat) : ∀ (a b : List (List Nat)), a ≠ [] → b ≠ [] → jn s (a ++ b) = jn s a ++ s ++ jn s b
  | [], _, h, _ => absurd rfl h
  | [x], b, _, hb => jn_cons s x hb
  | x :: y :: r, b, _, hb => by
    rw [List.cons_append, jn_cons s x (by simp), jn_app s (y :: r) b (by simp) hb, jn_cons s x (by simp)]
    simp [List.append_assoc]
theorem jn_in (s : List Nat) (b : List (List Nat)) (hb : b ≠ []) : ∀ (a c : List (List Nat)), jn s (a ++ jn s b :: c) = jn s (a ++ (b ++ c))
  | [], [] => by
    rw [List.append_nil]
    rfl
  | [], y :: r => by
    rw [List.nil_append, List.nil_append, jn_cons s _ (by simp), jn_app s b (y :: r) hb (by simp)]
  | x :: a, c => by
    have h1 : a ++ (b ++ c) ≠ [] := fun e => hb (List.append_eq_nil_iff.mp (List.append_eq_nil_iff.mp e).2).1
    rw [List.cons_append, List.cons_append, jn_cons s x (by simp), jn_cons s x h1, jn_in s b hb a c]
mutual
/-- the words of a text -/
def Wo.W : Wo → List (List Nat)
  | .lit l => [cs l.t]
  | .rc r => [123] :: (r.W ++ [[125]])
  | .rw t => [91] :: (t.W ++ [[93]])
def Rc.W : Rc → List (List Nat)
  | .nil => []
  | .cons n w r => (cs n ++ [58]) :: (w.W ++ r.W)
def Rw.W : Rw → List (List Nat)
  | .nil => []
  | .cons k r t => cs (sh k) :: ([123] :: (r.W ++ [[125]]) ++ t.W)
end
theorem Wo.W_ne : ∀ w : Wo, w.W ≠ []
  | .lit l => by simp [Wo.W]
  | .rc r => by simp [Wo.W]
  | .rw r => by simp [Wo.W]
theorem cs_lined (a b : Str) (l : List Str) : cs (lined a l b) = jn [32] (cs a :: (l.map cs ++ [cs b])) := by
  unfold lined
  rw [cs_join, List.map_cons, List.map_append]
  rfl
mutual
theorem Wo.t_W : ∀ w : Wo, cs w.t = jn [32] w.W
  | .lit l => rfl
  | .rc r => by
    show cs (lined "{" r.ts "}") = jn [32] ([123] :: (r.W ++ [[125]]))
    rw [cs_lined]
    exact Rc.ts_W r [[123]] [[125]]
  | .rw t => by
    show cs (lined "[" t.ts "]") = jn [32] ([91] :: (t.W ++ [[93]]))
    rw [cs_lined]
    exact Rw.ts_W t [[91]] [[93]]
theorem Rc.ts_W : ∀ (r : Rc) (a c : List (List Nat)), jn [32] (a ++ (r.ts.map cs ++ c)) = jn [32] (a ++ (r.W ++ c))
  | .nil, _, _ => rfl
  | .cons n w r, a, c => by
    have e : (Rc.cons n w r).ts.map cs = jn [32] ((cs n ++ [58]) :: w.W) :: r.ts.map cs := by
      show cs (n ++ ": " ++ w.t) :: r.ts.map cs = _
      rw [cs_app, cs_app, Wo.t_W w, jn_cons [32] _ (Wo.W_ne w)]
      congr 1
      show (cs n ++ [58, 32]) ++ _ = _
      simp [List.append_assoc]
    rw [e, List.cons_append, jn_in [32] _ (by simp)]
    have := Rc.ts_W r (a ++ ((cs n ++ [58]) :: w.W)) c
    show _ = jn [32] (a ++ ((cs n ++ [58]) :: (w.W ++ r.W) ++ c))
    simpa [List.append_assoc] using this
theorem Rw.ts_W : ∀ (t : Rw) (a c : List (List Nat)), jn [32] (a ++ (t.ts.map cs ++ c)) = jn [32] (a ++ (t.W ++ c))
  | .nil, _, _ => rfl
  | .cons k r t, a, c => by
    have e : (Rw.cons k r t).ts.map cs = jn [32] (cs (sh k) :: ([123] :: (r.W ++ [[125]]))) :: t.ts.map cs := by
      show cs ("#" ++ nT k ++ " " ++ lined "{" r.ts "}") :: t.ts.map cs = _
      have h1 := Rc.ts_W r [[123]] [[125]]
      have h2 : cs (lined "{" r.ts "}") = jn [32] ([[123]] ++ (r.W ++ [[125]])) := (cs_lined "{" "}" r.ts).trans h1
      rw [cs_app, cs_app, h2]
      rfl
    rw [e, List.cons_append, jn_in [32] _ (by simp)]
    have := Rw.ts_W t (a ++ (cs (sh k) :: ([123] :: (r.W ++ [[125]])))) c
    show _ = jn [32] (a ++ (cs (sh k) :: ([123] :: (r.W ++ [[125]]) ++ t.W) ++ c))
    simpa [List.append_assoc] using this
end
theorem Rc.t_W (r : Rc) : cs r.t = jn [32] ([123] :: (r.W ++ [[125]])) := Wo.t_W (.rc r)
end M91

set_option Elab.async false
set_option linter.all false
set_option maxRecDepth 100000
set_option maxHeartbeats 4000000
/-! class Reading -/
namespace M91
open PySem PySem.Spec PyProof.Rows L2 GL TL
theorem sr0 : FnScope ["self", "whole", "part"] ["self", "whole", "part"] (defScope rInit) := ⟨rfl, rfl, rfl, by decide +kernel, rfl, by decide +kernel, by decide +kernel⟩
theorem sr2 : FnScope ["self"] ["self"] (defScope rNext) := ⟨rfl, rfl, rfl, by decide +kernel, rfl, by decide +kernel, by decide +kernel⟩
theorem sr3 : FnScope ["self", "word", "sign"] ["self", "word"] (defScope rNum) := ⟨rfl, rfl, rfl, by decide +kernel, rfl, by decide +kernel, by decide +kernel⟩
theorem sr4 : FnScope ["self", "word"] ["self", "word"] (defScope rSer) := ⟨rfl, rfl, rfl, by decide +kernel, rfl, by decide +kernel, by decide +kernel⟩
theorem sr5 : FnScope ["self", "word"] ["self", "word"] (defScope rLit) := ⟨rfl, rfl, rfl, by decide +kernel, rfl, by decide +kernel, by decide +kernel⟩
/-- the class -/
structure Rg (K : PySem.W.Frag) (mg : Str → Option Value) (C : Addr) : Prop where
  cl : Cls K C
  nH : NoAttr K C "held_text"
  nL : NoAttr K C "left_words"
  mgC : mg "Reading" = some (.ref C)
structure DnM (P : Program) (w : World) (K : PySem.W.Frag) (mg : Str → Option Value) (base : Heap) (C : Addr) (m : Str) (k : Nat) (ps : List Str) (sp : Sp) where
  f : Addr
  fd : FuncData
  ok : FnOk P w K mg base CX0 k f fd ps sp
  mt : Meth K C m f
  b : Binds K fd ps []
theorem hl_ : ¬ (("held_text" : Str) = "left_words") := by decide +kernel
def rf (t : Str) (L : Addr) : List (Str × V) := putF "left_words" (.ref L) (putF "held_text" (.str t) [])
theorem rf_words (t : Str) (L : Addr) : (rf t L).lookup ("left_words" : Str) = some (.ref L) := by
  unfold rf
  rw [lookup_putF, if_pos rfl]
theorem rf_no (t : Str) (L : Addr) {m : Str} (h1 : ¬ m = "left_words") (h2 : ¬ m = "held_text") : (rf t L).lookup m = none := by
  unfold rf
  rw [lookup_putF, if_neg h1, lookup_putF, if_neg h2]
  all_goals rfl
theorem seq0 (n : Nat) (h : 0 < n) : seqIndex? 0 n = some 0 := by
  unfold seqIndex?
  simp [h]
/-- a reading at r, its words at L -/
def RdAt (C : Addr) (H : Hp) (r L : Addr) (ws : List (List Nat)) : Prop := ∃ dx t, H r = some (.ins C dx (rf t L)) ∧ H L = some (.lst ((ws.map S).map V.str))
theorem RdAt.ne {C : Addr} {H : Hp} {r L : Addr} {ws : List (List Nat)} (h : RdAt C H r L ws) : r ≠ L := by
  obtain ⟨dx, t, h1, h2⟩ := h
  exact ne_of h1 h2 (by intro z; cases z)
theorem off_tk {L : Addr} {H H' : Hp} {xs : List V} (h : H L = some (.lst xs)) (x : Off L H H') : TK H H' := fun a ys => by
  refine ⟨fun e => x a _ (fun z => ?_) e, fun o e => x a _ (fun z => ?_) e⟩
  · rw [z, h] at e
    cases e
  · rw [z, h] at e
    cases e
theorem off_same {L : Addr} {H H' : Hp} (x : Same H H') : Off L H H' := fun a o _ h => x a o h
theorem RdAt.same {C : Addr} {H H' : Hp} {r L : Addr} {ws : List (List Nat)} (h : RdAt C H r L ws) (x : Same H H') : RdAt C H' r L ws := by
  obtain ⟨dx, t, h1, h2⟩ := h
  exact ⟨dx, t, x _ _ h1, x _ _ h2⟩
section
variable {P : Program} {w : World} {K : PySem.W.Frag} {mg : Str → Option Value} {base : Heap} {C : Addr}
def spNext (C : Addr) : Sp := fun vs H Q _ => ∃ (r L : Addr) (x : List Nat) (ws : List (List Nat)), vs = [.ref r] ∧ RdAt C H r L (x :: ws) ∧ ws.length ≤ 1000000 ∧ ∀ H', Off L H H' → RdAt C H' r L ws → Q (.str (S x)) H'
theorem ok_next {f : Addr} {fd : FuncData} (F : Fun K "next_word" "Reading.next_word" rNext f fd) (R : Rg K mg C) : FnOk P w K mg base CX0 1 f fd ["self"] (spNext C) := by
  refine F.ok sr2 (fun vs H Q E h => ?_) (fun cdv A outer s H vs Q E hr h => ?_)
  · obtain ⟨r, L, x, ws, rfl, _⟩ := h
    rfl
  · obtain ⟨r, L, x, ws, rfl, hR, hw, q⟩ := h
    have ne := hR.ne
    obtain ⟨dx, t, h1, h2⟩ := hR
    refine ⟨_, (pss_cons (ps_if (pt_cmpR (op_eqS hr.units0) (pe_fld (pv 0) rfl) (pe_lst pa_nil) (nomark _))
        (pss_one ps_never)
        pss_nil)
      (pss_one (ps_ret (pe_bm PySem.F.plainAttrs_list PySem.F.slot_list_pop PySem.F.type_list_pop mt_popAt (pe_fld (pv 0) rfl) (pa_cons pe_int pa_nil))))), ?_⟩
    refine ⟨.ref r, rfl, r, C, dx, _, _, rfl, h1, R.cl, R.nL, rf_words _ _, by show 0 ≤ sizeLine; decide, fun E0 nE => ?_⟩
    have sE := same_new (o := .lst []) nE
    refine ⟨L, E0, _, [], rfl, rfl, SqL.of (sE _ _ h2), SqL.of upd_same, _, rfl, ?_⟩
    refine iteF ?_
    refine ⟨.ref r, rfl, r, C, dx, _, _, rfl, sE _ _ h1, R.cl, R.nL, rf_words _ _, .inl ⟨rfl, _, SqL.of (sE _ _ h2)⟩, L, _, 0, 0, .str (S x), rfl, rfl, sE _ _ h2, by decide, by decide, seq0 _ (by simp), rfl, ?_⟩
    refine q _ (fun a o n h => ?_) ⟨dx, t, ?_, upd_same⟩
    · rw [upd_ne n]
      exact sE _ _ h
    · rw [upd_ne ne]
      exact sE _ _ h1
theorem num_head (n : Nat) (h : 0 < n) : ∃ c r, numL n = c :: r ∧ c ≠ 48 := by
  induction n using Nat.strongRecOn with
  | _ n ih =>
    by_cases h10 : n < 10
    · exact ⟨_, [], numL_lt h10, by omega⟩
    · obtain ⟨c, r, e, hc⟩ := ih (n / 10) (by omega) (by omega)
      exact ⟨c, r ++ [48 + n % 10], by rw [numL_step (by omega), e]; rfl, hc⟩
theorem cs_num (k : Nat) : cs (nT (k : Int)) = numL k := tl_num k
theorem num_len (k : Nat) : (nT (k : Int)).length = (numL k).length := by rw [len_cs, cs_num]
def spNum : Sp := fun vs H Q _ => ∃ (v : V) (k : Nat), vs = [v, .str (nT (k : Int))] ∧ k < 2 ^ 60 ∧ ∀ H', Same H H' → Q (.int k) H'
theorem ok_num {f : Addr} {fd : FuncData} (F : Fun K "read_number" "Reading.read_number" rNum f fd) (T : Bl K mg) (R : Rg K mg C) : FnOk P w K mg base CX0 1 f fd ["self", "word"] spNum := by
  refine F.ok sr3 (fun vs H Q E h => ?_) (fun cdv A outer s H vs Q E hr h => ?_)
  · obtain ⟨v, k, rfl, _⟩ := h
    rfl
  · obtain ⟨v, k, rfl, hk, q⟩ := h
    have l1 := nT_len (k := (k : Nat)) (by simpa using hk)
    have l0 : 1 ≤ (nT (k : Int)).length := by
      rw [num_len]
      cases e : numL k with
      | nil => exact absurd e (numL_ne k)
      | cons c r => simp
    have hdig := numL_digits k
    refine ⟨_, (pss_cons (ps_if (PW.pt (pw_or (pt_not (pt_chain op_le op_le pe_int (pe_callB call_len_str (by rfl) T.len (by decide +kernel) (pa_cons (pv 1) pa_nil)) (pe_glob (v := .int 1000) (by rfl) T.cmostdigits.choose_spec ⟨_, rfl⟩))) (pw_or1 (pt_not (pt_val (pe_callB (cr_all rfl) (by rfl) T.all (by decide +kernel) (pa_cons (pe_lc (own := [("sign", 2)]) (g := gName 2) (by rfl) sr3.nd (pi_str (pv 1)) (blkOk_by (own := [("sign", 2)]) (N := ["self", "word", "sign"]) (sc := defScope rNum) (by decide +kernel)) (fun _ _ _ _ _ => (pg_name (i := 2) sr3.nd rfl (Or.inl rfl))) (fun _ _ _ _ _ => pts_nil) (fun _ _ _ _ _ => (pe_cmpR op_in_sign (pv 2) (pe_glob (v := .str "0123456789") (by rfl) T.cdigits.choose_spec ⟨_, rfl⟩) (by rfl)))) pa_nil)))))))
        (pss_one ps_never)
        pss_nil)
      (pss_cons (ps_if (PW.pt (pw_and (pt_cmpR op_eq (pe_ix ix_str (pv 1) pe_int (fun _ _ => rfl)) (pe_ix ix_str (pe_glob (v := .str "0123456789") (by rfl) T.cdigits.choose_spec ⟨_, rfl⟩) pe_int (fun _ _ => rfl)) (nomark _)) (pw_and1 (pt_cmpR op_gt (pe_callB call_len_str (by rfl) T.len (by decide +kernel) (pa_cons (pv 1) pa_nil)) pe_int (nomark _)))))
        (pss_one ps_never)
        pss_nil)
      (pss_one (ps_ret (pe_callTy call_int_str (by rfl) T.int (by decide +kernel) (pa_cons (pv 1) pa_nil)))))), ?_⟩
    have hcs := cs_num k
    have hint : PySem.intText? (nT (k : Int)) = some (k : Int) := int_num (by rw [← num_len]; omega)
    have hfirst : ∀ c, (cs (nT (k : Int)))[0]? = some c → c = 48 → (nT (k : Int)).length = 1 := fun c hc h48 => by
      by_cases h0 : k = 0
      · subst h0
        rw [num_len, numL_lt (by decide)]
        rfl
      · obtain ⟨c', r, e, hne⟩ := num_head k (by omega)
        rw [hcs, e] at hc
        have : c' = c := by simpa using hc
        exact absurd (this.trans h48) hne
    generalize nT (k : Int) = z at l1 l0 hcs hint hfirst
    have szz : z.length ≤ sizeLine := big_le (by omega)
    refine ⟨.str z, rfl, z, rfl, szz, 1, (z.length : Int), rfl, rfl, _, rfl, ?_⟩
    rw [decide_eq_true (show (1 : Int) ≤ (z.length : Int) by omega)]
    refine iteT ?_
    refine ⟨(z.length : Int), 1000, rfl, rfl, _, rfl, ?_⟩
    rw [decide_eq_true (show (z.length : Int) ≤ 1000 by omega)]
    refine iteF ?_
    refine ⟨.str z, rfl, z, rfl, fun D nD => ?_⟩
    refine lc_it (walk_str (z := z)) (fun i H2 => Same H H2 ∧ H2 D = some (.lst ((List.replicate i true).map V.bl))) ⟨same_new nD, upd_same⟩ (fun _ _ _ _ => trivial) (fun i x H2 H3 hi hP hY => ?_) (fun H2 hP => ?_)
    · obtain ⟨sm, hD⟩ := hP
      obtain ⟨rfl, c, hc, rfl⟩ := hY
      have hm : c ∈ cs z := by
        have : z.cps.toList[i]? = some c := by rw [Array.getElem?_toList]; exact hc
        exact List.mem_of_getElem? this
      have hd := hdig c (hcs ▸ hm)
      have hi' : i < z.length := hi
      refine ⟨rfl, .str ⟨#[c]⟩, rfl, c, _, rfl, rfl, _, hD, ?_, same_put sm nD, ?_⟩
      · rw [List.length_map, List.length_replicate]
        exact Nat.lt_of_lt_of_le (by omega) (big_le (n := 1000) (by decide))
      · have : decide (c ∈ ("0123456789" : Str).cps.toList) = true := by
          have : ∀ d, 48 ≤ d → d ≤ 57 → decide (d ∈ ("0123456789" : Str).cps.toList) = true := fun d h1 h2 => by
            obtain ⟨e, rfl⟩ : ∃ e, d = 48 + e := ⟨d - 48, by omega⟩
            have : e < 10 := by omega
            exact (show ∀ e, e < 10 → decide (48 + e ∈ ("0123456789" : Str).cps.toList) = true by decide) e this
          exact this c (by omega) (by omega)
        rw [upd_same, List.replicate_succ', List.map_append]
        show some (HO.lst (_ ++ [V.bl (decide (c ∈ ("0123456789" : Str).cps.toList))])) = _
        rw [this]
        rfl
    · obtain ⟨sm, hD⟩ := hP
      refine ⟨D, _, rfl, SqL.of hD, ?_⟩
      have e2 : ((List.replicate z.cps.size true).all id) = true := by simp
      refine ⟨_, rfl, ?_⟩
      rw [e2]
      refine iteF ?_
      have hlt : 0 < (cs z).length := by rw [← len_cs]; omega
      have hc0 : (cs z)[0]? = some (cs z)[0] := List.getElem?_eq_getElem hlt
      generalize (cs z)[0] = c at hc0
      have fin : ∃ (a : Str) (n : Int), [V.str z] = [V.str a] ∧ PySem.intText? a = some n ∧ a.length ≤ 640 ∧ Q (.int n) H2 := ⟨z, k, rfl, hint, by omega, q H2 sm⟩
      refine ⟨.str z, rfl, z, 0, c, rfl, rfl, szz, atI_nat (j := 0) hc0, "0123456789", 0, 48, rfl, rfl, by decide, rfl, rfl, _, rfl, ite2 (fun e => ?_) (fun e => ?_)⟩
      · have e1 : V.str ⟨#[c]⟩ = V.str ⟨#[48]⟩ := of_decide_eq_true e
        have e2 : c = 48 := by
          injection e1 with e3
          have : cs (⟨#[c]⟩ : Str) = [48] := by rw [e3]
          have : [c] = [48] := this
          simpa using this
        have e4 := hfirst c hc0 e2
        refine ⟨.str z, rfl, z, rfl, szz, (z.length : Int), 1, rfl, rfl, _, rfl, ?_⟩
        rw [decide_eq_false (show ¬ (z.length : Int) > 1 by omega)]
        exact iteF ⟨.str z, rfl, fin⟩
      · exact ⟨.str z, rfl, fin⟩
theorem cut_front (z : Str) (j : Nat) (h : j ≤ z.length) : cutS z none (some (j : Int)) = S ((cs z).take j) := by
  unfold cutS S
  rw [HT.sIx_nat, HT.sIx_none, Nat.min_eq_left h]
  rfl
/-- a reading stands at r -/
def ObjR (C : Addr) (H : Hp) (r : Addr) : Prop := ∃ dx t L, H r = some (.ins C dx (rf t L))
theorem RdAt.obj {H : Hp} {r L : Addr} {ws : List (List Nat)} (h : RdAt C H r L ws) : ObjR C H r := by
  obtain ⟨dx, t, h1, _⟩ := h
  exact ⟨dx, t, L, h1⟩
theorem ObjR.same {H H' : Hp} {r : Addr} (h : ObjR C H r) (x : Same H H') : ObjR C H' r := by
  obtain ⟨dx, t, L, h1⟩ := h
  exact ⟨dx, t, L, x _ _ h1⟩
def spSer (C : Addr) : Sp := fun vs H Q _ => ∃ (r : Addr) (k : Nat), vs = [.ref r, .str (sh k)] ∧ ObjR C H r ∧ k < 2 ^ 60 ∧ ∀ H', Same H H' → Q (.int k) H'
theorem cs_sh (k : Nat) : cs (sh k) = 35 :: numL k := by
  show cs ("#" ++ nT k) = _
  rw [cs_app, cs_num]
  rfl
theorem ok_ser {f : Addr} {fd : FuncData} (F : Fun K "read_serial" "Reading.read_serial" rSer f fd) (T : Bl K mg) (R : Rg K mg C) (m_read_number : DnM P w K mg base C "read_number" 1 ["self", "word"] spNum) : FnOk P w K mg base CX0 2 f fd ["self", "word"] (spSer C) := by
  refine F.ok sr4 (fun vs H Q E h => ?_) (fun cdv A outer s H vs Q E hr h => ?_)
  · obtain ⟨v, k, rfl, _⟩ := h
    rfl
  · obtain ⟨r, k, rfl, ⟨dx, t, L, h1⟩, hk, q⟩ := h
    refine ⟨_, (pss_cons (ps_if (pt_cmpR op_ne (pe_slice sl_str (pv 1) po_none (po_some pe_int)) (pe_glob (v := .str "#") (by rfl) T.cnumbermark.choose_spec ⟨_, rfl⟩) (nomark _))
        (pss_one ps_never)
        pss_nil)
      (pss_one (ps_ret (pe_meth (pv 0) R.cl m_read_number.mt m_read_number.ok (hr.mono (by omega)) m_read_number.b .nil pass0 (pa_cons (pe_slice sl_str (pv 1) (po_some pe_int) po_none) pa_nil))))), ?_⟩
    have l1 := sh_len hk
    have hcs := cs_sh k
    have l0 : 1 ≤ (sh k).length := by
      rw [len_cs, hcs]
      simp
    have e1 : cutS (sh k) none (some (1 : Int)) = "#" := by
      have := cut_front (sh k) 1 l0
      rw [hcs] at this
      exact this
    have e2 : cutS (sh k) (some (1 : Int)) none = nT (k : Int) := by
      have := cut_end (sh k) 1 l0
      rw [hcs] at this
      have e3 : S ((35 :: numL k).drop 1) = nT (k : Int) := by
        rw [List.drop_one, List.tail_cons, ← cs_num, S_cs]
      exact this.trans e3
    refine ⟨.str (sh k), rfl, 1, rfl, sh k, rfl, big_le (by omega), rfl, _, rfl, ?_⟩
    rw [e1]
    refine iteF ?_
    refine ⟨.ref r, rfl, r, dx, _, rfl, h1, rf_no _ _ (by decide +kernel) (by decide +kernel), .str (sh k), rfl, 1, rfl, sh k, rfl, big_le (by omega), ?_⟩
    rw [e2]
    exact ⟨.ref r, k, rfl, hk, q⟩
theorem of_app (a b : String) : cs (Str.ofString (a ++ b)) = cs (Str.ofString a) ++ cs (Str.ofString b) := by
  rw [Str.ofString_eq_toList, Str.ofString_eq_toList, Str.ofString_eq_toList]
  simp [String.toList_append]
theorem cs_neg (k : Nat) (h : 0 < k) : cs (nT (-(k : Int))) = 45 :: numL k := by
  obtain ⟨m, rfl⟩ : ∃ m, k = m + 1 := ⟨k - 1, by omega⟩
  have e : (toString (-((m + 1 : Nat) : Int)) : String) = "-" ++ toString ((m + 1 : Nat) : Int) := rfl
  show cs (Str.ofString (toString (-((m + 1 : Nat) : Int)))) = _
  rw [e, of_app]
  have := cs_num (m + 1)
  rw [this]
  rfl
/-- a literal that can be read -/
def Lit.rd : Lit → Prop
  | .s x => Part x
  | .i n => n.natAbs < 2 ^ 60
def spLit (C : Addr) : Sp := fun vs H Q _ => ∃ (r : Addr) (l : Lit), vs = [.ref r, .str l.t] ∧ ObjR C H r ∧ l.rd ∧ ∀ H', Same H H' → Q l.v H'
theorem cut_in (z : Str) (h : 2 ≤ z.length) : cutS z (some (1 : Int)) (some (-1 : Int)) = S (((cs z).drop 1).take (z.length - 2)) := by
  have e1 : HT.sIx z.length 0 (some (1 : Int)) = 1 := by
    have := HT.sIx_nat z.length 0 1
    rw [Nat.min_eq_left (by omega)] at this
    exact this
  have e2 : HT.sIx z.length z.length (some (-1 : Int)) = z.length - 1 := by
    show (if (-1 : Int) < 0 then ((-1 : Int) + (z.length : Int)).toNat else min (-1 : Int).toNat z.length) = _
    rw [if_pos (by decide)]
    omega
  unfold cutS S
  rw [e1, e2]
  rfl
theorem ok_lit {f : Addr} {fd : FuncData} (F : Fun K "read_literal" "Reading.read_literal" rLit f fd) (T : Bl K mg) (R : Rg K mg C) (m_read_number : DnM P w K mg base C "read_number" 1 ["self", "word"] spNum) (d_is_string_part : DnO P w K mg base "is_string_part" 1 ["text"] spPart) :
    FnOk P w K mg base CX0 2 f fd ["self", "word"] (spLit C) := by
  refine F.ok sr5 (fun vs H Q E h => ?_) (fun cdv A outer s H vs Q E hr h => ?_)
  · obtain ⟨v, k, rfl, _⟩ := h
    rfl
  · obtain ⟨r, l, rfl, ⟨dx, t, L, h1⟩, hl, q⟩ := h
    refine ⟨_, (pss_cons (ps_if (PW.pt (pw_and (pt_cmpR op_eq (pe_slice sl_str (pv 1) po_none (po_some pe_int)) (pe_glob (v := .str "\"") (by rfl) T.cquote.choose_spec ⟨_, rfl⟩) (nomark _)) (pw_and (pt_cmpR op_gt (pe_callB call_len_str (by rfl) T.len (by decide +kernel) (pa_cons (pv 1) pa_nil)) pe_int (nomark _)) (pw_and (pt_cmpR op_eq (pe_ix ix_str (pv 1) (pe_un un_neg pe_int) (fun _ _ => rfl)) (pe_glob (v := .str "\"") (by rfl) T.cquote.choose_spec ⟨_, rfl⟩) (nomark _)) (pw_and1 (pt_val (pe_call d_is_string_part.ok (hr.mono (by omega)) (by rfl) d_is_string_part.g d_is_string_part.kp d_is_string_part.b .nil pass0 (pa_cons (pe_slice sl_str (pv 1) (po_some pe_int) (po_some (pe_un un_neg pe_int))) pa_nil))))))))
        (pss_one (ps_ret (pe_slice sl_str (pv 1) (po_some pe_int) (po_some (pe_un un_neg pe_int)))))
        pss_nil)
      (pss_cons (ps_if (PW.pt (pw_and (pt_cmpR op_eq (pe_slice sl_str (pv 1) po_none (po_some pe_int)) (pe_glob (v := .str "-") (by rfl) T.cnothing.choose_spec ⟨_, rfl⟩) (nomark _)) (pw_and1 (pt_cmpR op_ne (pv 1) pe_str (nomark _)))))
        (pss_one (ps_ret (pe_op op_sub pe_int (pe_meth (pv 0) R.cl m_read_number.mt m_read_number.ok (hr.mono (by omega)) m_read_number.b .nil pass0 (pa_cons (pe_slice sl_str (pv 1) (po_some pe_int) po_none) pa_nil)))))
        pss_nil)
      (pss_one (ps_ret (pe_meth (pv 0) R.cl m_read_number.mt m_read_number.ok (hr.mono (by omega)) m_read_number.b .nil pass0 (pa_cons (pv 1) pa_nil)))))), ?_⟩
    cases l with
    | s x =>
      have hp : Part x := hl
      have hcs : cs (Lit.s x).t = 34 :: (cs x ++ [34]) := by
        show cs ("\"" ++ x ++ "\"") = _
        rw [cs_app, cs_app]
        rfl
      have hlen : (Lit.s x).t.length = x.length + 2 := by
        rw [len_cs, hcs, List.length_cons, List.length_append, ← len_cs]
        rfl
      have e3 : cutS (Lit.s x).t (some (1 : Int)) (some (-1 : Int)) = x := by
        rw [cut_in _ (by omega), hcs, hlen, List.drop_one, List.tail_cons, Nat.add_sub_cancel, len_cs x, List.take_left, S_cs]
      have e1 : cutS (Lit.s x).t none (some (1 : Int)) = "\"" := by
        have := cut_front (Lit.s x).t 1 (by omega)
        rw [hcs] at this
        exact this
      have e2 : atI (cs (Lit.s x).t) (-1) = some 34 := by
        rw [hcs]
        exact atI_last (34 :: cs x) 34
      have hx := hp.1
      have q : ∀ H', Same H H' → Q (.str x) H' := q
      generalize (Lit.s x).t = z at hlen e1 e2 e3
      have szz : z.length ≤ sizeLine := big_le (by omega)
      refine ⟨.str z, rfl, 1, rfl, z, rfl, szz, rfl, _, rfl, ?_⟩
      rw [e1]
      refine iteT ?_
      refine ⟨.str z, rfl, z, rfl, szz, (z.length : Int), 1, rfl, rfl, _, rfl, ?_⟩
      rw [decide_eq_true (show (z.length : Int) > 1 by omega)]
      refine iteT ?_
      refine ⟨.str z, rfl, 1, rfl, z, -1, 34, rfl, rfl, szz, e2, rfl, _, rfl, iteT ?_⟩
      refine ⟨.str z, rfl, 1, rfl, 1, rfl, -1, rfl, z, rfl, szz, ?_⟩
      rw [e3]
      refine ⟨x, rfl, hp, fun H1 s1 => ⟨true, rfl, iteT ?_⟩⟩
      refine ⟨.str z, rfl, 1, rfl, 1, rfl, -1, rfl, z, rfl, szz, ?_⟩
      rw [e3]
      exact q H1 s1
    | i n =>
      have hn : n.natAbs < 2 ^ 60 := hl
      have q : ∀ H', Same H H' → Q (.int n) H' := q
      have l1 := nT_len (k := n) hn
      have key : (∃ k : Nat, n = k ∧ ∃ c r, numL k = c :: r ∧ cs (nT n) = numL k) ∨ (∃ k : Nat, 0 < k ∧ n = -(k : Int) ∧ cs (nT n) = 45 :: numL k) := by
        by_cases h0 : 0 ≤ n
        · refine .inl ⟨n.toNat, by omega, ?_⟩
          have e : n = ((n.toNat : Nat) : Int) := by omega
          cases e2 : numL n.toNat with
          | nil => exact absurd e2 (numL_ne _)
          | cons c r =>
            refine ⟨c, r, rfl, ?_⟩
            have := cs_num n.toNat
            rw [← e] at this
            rw [this, e2]
        · refine .inr ⟨n.natAbs, by omega, by omega, ?_⟩
          have e : n = -((n.natAbs : Nat) : Int) := by omega
          have := cs_neg n.natAbs (by omega)
          rw [← e] at this
          exact this
      rcases key with ⟨k, rfl, c, r', hk, hcs⟩ | ⟨k, k0, rfl, hcs⟩
      · have hd := numL_digits k c (by rw [hk]; exact List.mem_cons_self ..)
        have l0 : 1 ≤ (nT (k : Int)).length := by
          rw [len_cs, hcs, hk]
          simp
        have e1 : cutS (nT (k : Int)) none (some (1 : Int)) = S [c] := by
          have := cut_front (nT (k : Int)) 1 l0
          rw [hcs, hk] at this
          exact this
        have n1 : ¬ V.str (S [c]) = V.str "\"" := fun z => by
          injection z with z
          have : cs (S [c]) = [34] := by rw [z]; rfl
          rw [cs_S] at this
          have : c = 34 := by simpa using this
          omega
        have n2 : ¬ V.str (S [c]) = V.str "-" := fun z => by
          injection z with z
          have : cs (S [c]) = [45] := by rw [z]; rfl
          rw [cs_S] at this
          have : c = 45 := by simpa using this
          omega
        have szz : (nT (k : Int)).length ≤ sizeLine := big_le (by omega)
        refine ⟨.str (nT (k : Int)), rfl, 1, rfl, nT (k : Int), rfl, szz, rfl, _, rfl, ?_⟩
        rw [e1, decide_eq_false n1]
        refine iteF ?_
        refine ⟨.str (nT (k : Int)), rfl, 1, rfl, nT (k : Int), rfl, szz, rfl, _, rfl, ?_⟩
        rw [e1, decide_eq_false n2]
        refine iteF ?_
        exact ⟨.ref r, rfl, r, dx, _, rfl, h1, rf_no _ _ (by decide +kernel) (by decide +kernel), .str (nT (k : Int)), rfl, .ref r, k, rfl, by simpa using hn, q⟩
      · have l0 : 1 ≤ (nT (-(k : Int))).length := by
          rw [len_cs, hcs]
          simp
        have e1 : cutS (nT (-(k : Int))) none (some (1 : Int)) = "-" := by
          have := cut_front (nT (-(k : Int))) 1 l0
          rw [hcs] at this
          exact this
        have e2 : cutS (nT (-(k : Int))) (some (1 : Int)) none = nT (k : Int) := by
          have := cut_end (nT (-(k : Int))) 1 l0
          rw [hcs] at this
          have e3 : S ((45 :: numL k).drop 1) = nT (k : Int) := by
            rw [List.drop_one, List.tail_cons, ← cs_num, S_cs]
          exact this.trans e3
        have n3 : nT (-(k : Int)) ≠ "-0" := fun z => by
          have e4 : cs (nT (-(k : Int))) = [45, 48] := by rw [z]; rfl
          obtain ⟨c, r2, e5, hc⟩ := num_head k k0
          rw [hcs, e5] at e4
          have : c = 48 := by
            injection e4 with _ e6
            injection e6
          exact hc this
        have szz : (nT (-(k : Int))).length ≤ sizeLine := big_le (by omega)
        refine ⟨.str (nT (-(k : Int))), rfl, 1, rfl, nT (-(k : Int)), rfl, szz, rfl, _, rfl, ?_⟩
        rw [e1]
        refine iteF ?_
        refine ⟨.str (nT (-(k : Int))), rfl, 1, rfl, nT (-(k : Int)), rfl, szz, rfl, _, rfl, ?_⟩
        rw [e1]
        refine iteT ?_
        refine ⟨.str (nT (-(k : Int))), rfl, rfl, _, rfl, ?_⟩
        rw [decide_eq_false (show ¬ V.str (nT (-(k : Int))) = V.str "-0" from fun e => n3 (by injection e))]
        refine iteT ?_
        refine ⟨.ref r, rfl, r, dx, _, rfl, h1, rf_no _ _ (by decide +kernel) (by decide +kernel), .str (nT (-(k : Int))), rfl, 1, rfl, nT (-(k : Int)), rfl, szz, ?_⟩
        rw [e2]
        refine ⟨.ref r, k, rfl, by simpa using hn, fun H' sm => ⟨0, (k : Int), rfl, rfl, ?_⟩⟩
        have e7 : (0 : Int) - (k : Int) = -(k : Int) := by omega
        show Q (.int ((0 : Int) - (k : Int))) H'
        rw [e7]
        exact q H' sm
end
end M91

set_option Elab.async false
set_option linter.all false
set_option maxRecDepth 100000
set_option maxHeartbeats 4000000
/-! read_path, read_place, read_spot -/
namespace M91
open PySem PySem.Spec PyProof.Rows L2 GL TL
theorem sr6 : FnScope ["self", "text", "others", "found", "word", "is_label"] ["self", "text", "others"] (defScope rPath) := ⟨rfl, rfl, rfl, by decide +kernel, rfl, by decide +kernel, by decide +kernel⟩
theorem sr7 : FnScope ["self", "word", "parts"] ["self", "word"] (defScope rPlace) := ⟨rfl, rfl, rfl, by decide +kernel, rfl, by decide +kernel, by decide +kernel⟩
theorem sr8 : FnScope ["self", "word", "parts"] ["self", "word"] (defScope rSpot) := ⟨rfl, rfl, rfl, by decide +kernel, rfl, by decide +kernel, by decide +kernel⟩
/-- a label that can be read; ots: the other words that are let -/
def Lab.rd (ots : List Str) : Lab → Prop
  | .w x => isName x = true ∨ x ∈ ots
  | .n k => k < 2 ^ 60
theorem low_mem {x : Str} (h : low x = true) : ∀ c ∈ cs x, 97 ≤ c ∧ c ≤ 122 := fun c hc => by
  have h1 := List.all_eq_true.mp h c hc
  have h2 : c ∈ letters.cps.toList := of_decide_eq_true h1
  exact (show ∀ c ∈ letters.cps.toList, 97 ≤ c ∧ c ≤ 122 by decide) c h2
theorem name_low {x : Str} (h : isName x = true) : low x = true ∧ 1 ≤ x.length ∧ x.length ≤ 12 := by
  unfold isName at h
  obtain ⟨h1, h2⟩ := Bool.and_eq_true_iff.mp h
  obtain ⟨h3, h4⟩ := Bool.and_eq_true_iff.mp h2
  obtain ⟨h5, h6⟩ := Bool.and_eq_true_iff.mp h3
  exact ⟨h1, of_decide_eq_true h5, of_decide_eq_true h6⟩
/-- the signs of labels: letters, figures, # and * -/
theorem Lab.signs {ots : List Str} (ho : ots = [] ∨ ots = [("*" : Str)]) {l : Lab} (h : l.rd ots) : ∀ c ∈ cs l.t, (97 ≤ c ∧ c ≤ 122) ∨ (48 ≤ c ∧ c ≤ 57) ∨ c = 35 ∨ c = 42 := fun c hc => by
  cases l with
  | w x =>
    rcases h with h | h
    · exact .inl (low_mem (name_low h).1 c hc)
    · rcases ho with rfl | rfl
      · cases h
      · have : x = "*" := by simpa using h
        subst this
        have : c ∈ [42] := hc
        exact .inr (.inr (.inr (by simpa using this)))
  | n k =>
    have hc : c ∈ cs (sh k) := hc
    rw [cs_sh] at hc
    rcases List.mem_cons.mp hc with e | e
    · exact .inr (.inr (.inl e))
    · have := numL_digits k c e
      exact .inr (.inl (by omega))
theorem sh_no (k : Nat) : isName (sh k) = false := by
  cases e : isName (sh k) with
  | false => rfl
  | true =>
    have := low_mem (name_low e).1 35 (by rw [cs_sh]; exact List.mem_cons_self ..)
    omega
theorem Lab.rlen {ots : List Str} (ho : ots = [] ∨ ots = [("*" : Str)]) {l : Lab} (h : l.rd ots) : l.t.length ≤ 31 := by
  cases l with
  | w x =>
    rcases h with h | h
    · have := (name_low h).2.2
      show x.length ≤ 31
      omega
    · rcases ho with rfl | rfl
      · cases h
      · have : x = "*" := by simpa using h
        subst this
        decide
  | n k => exact sh_len h
section
variable {P : Program} {w : World} {K : PySem.W.Frag} {mg : Str → Option Value} {base : Heap} {C : Addr}
def spPath (K : PySem.W.Frag) (C : Addr) : Sp := fun vs H Q _ => ∃ (r o : Addr) (ots : List Str) (p : Path), vs = [.ref r, .str (pathT p), .ref o] ∧ ObjR C H r ∧ SqT K H o (ots.map V.str) ∧ (ots = [] ∨ ots = [("*" : Str)]) ∧ p ≠ [] ∧ p.length ≤ 60 ∧ (∀ l ∈ p, l.rd ots) ∧ ∀ H' a, Same H H' → TV K H' (.ref a) (pathD p) → Q (.ref a) H'
theorem ok_path {f : Addr} {fd : FuncData} (F : Fun K "read_path" "Reading.read_path" rPath f fd) (T : Bl K mg) (R : Rg K mg C) (m_read_serial : DnM P w K mg base C "read_serial" 2 ["self", "word"] (spSer C)) (d_is_name : DnO P w K mg base "is_name" 2 ["value"] spNm) :
    FnOk P w K mg base CX0 3 f fd ["self", "text", "others"] (spPath K C) := by
  refine F.ok sr6 (fun vs H Q E h => ?_) (fun cdv A outer s H vs Q E hr h => ?_)
  · obtain ⟨r, o, ots, p, rfl, _⟩ := h
    rfl
  · obtain ⟨r, o, ots, p, rfl, hr0, ho, hots, pne, p60, prd, q⟩ := h
    refine ⟨_, (pss_cons (ps_set (i := 3) sr6.nd rfl (Or.inl rfl) (pe_lst pa_nil))
      (pss_cons (ps_for PassesOwn.never rfl (pi_list (pe_split (pv 1) (pe_glob (v := .str ".") (by rfl) T.cdot.choose_spec ⟨_, rfl⟩))) (pg_name (i := 4) sr6.nd rfl (Or.inl rfl))
        (pss_cons (ps_set (i := 5) sr6.nd rfl (Or.inl rfl) (pe_or (pe_call d_is_name.ok (hr.mono (by omega)) (by rfl) d_is_name.g d_is_name.kp d_is_name.b .nil pass0 (pa_cons (pv 4) pa_nil)) (pe_one (pe_cmpR (r := rIn K false) op_in_seq (pv 4) (pv 2) (by rfl)))))
        (pss_one (ps_expr (pe_bm PySem.F.plainAttrs_list PySem.F.slot_list_append PySem.F.type_list_append mt_append (pv 3) (pa_cons (pe_ifExp (pt_val (pv 5)) (pv 4) (pe_meth (pv 0) R.cl m_read_serial.mt m_read_serial.ok (hr.mono (by omega)) m_read_serial.b .nil pass0 (pa_cons (pv 4) pa_nil))) pa_nil))))))
      (pss_one (ps_ret (pe_callTy call_tuple_of (by rfl) T.tuple (by decide +kernel) (pa_cons (pv 3) pa_nil)))))), ?_⟩
    have hsp : Txt.split (pathT p) "." = p.map Lab.t := by
      have := split_join (y := ".") (s := 46) (S := []) rfl (by decide +kernel) (parts := p.map Lab.t) (by simpa using pne) (fun x hx hm => by
        obtain ⟨l, hl, rfl⟩ := List.mem_map.mp hx
        rcases Lab.signs hots (prd l hl) 46 hm with h | h | h | h <;> omega)
      exact this
    have lsum : ∀ q : Path, (∀ l ∈ q, l.rd ots) → ((q.map Lab.t).map (·.length)).sum ≤ 31 * q.length := by
      intro q
      induction q with
      | nil => exact fun _ => Nat.le_refl _
      | cons l r ih =>
        intro h
        have h1 := ih fun x hx => h x (List.mem_cons_of_mem _ hx)
        have h2 := Lab.rlen hots (h l (List.mem_cons_self ..))
        rw [List.map_cons, List.map_cons, List.sum_cons, List.length_cons]
        omega
    have plen : (pathT p).length ≤ 4000 := by
      have h1 := join_le "." (p.map Lab.t)
      have h2 := lsum p prd
      have e : ("." : Str).length = 1 := rfl
      rw [e, List.length_map] at h1
      unfold pathT
      omega
    refine ⟨Nat.zero_le _, fun D nD => ?_⟩
    refine ⟨.str (pathT p), rfl, ⟨_, rfl⟩, _, _, rfl, rfl, rfl, Nat.le_trans (by omega : (pathT p).length + 2 ≤ 5000) (by decide), ?_⟩
    rw [hsp]
    intro L nL
    have s0 : Same H (upd (upd H D (.lst [])) L (.lst ((p.map Lab.t).map V.str))) := same_put (same_new nD) ((same_new nD).free nL)
    have DL : D ≠ L := ne_of_none upd_same nL
    refine ⟨L, rfl, ⟨_, SqL.of upd_same⟩, ?_⟩
    refine for_list (K := K) (a := L) (xs := (p.map Lab.t).map V.str) (fun i σ H2 => ∃ y4 y5, σ = [some (.ref r), some (.str (pathT p)), some (.ref o), some (.ref D), y4, y5] ∧ Same H H2 ∧ H2 D = some (.lst ((p.take i).map Lab.v)) ∧ H2 L = some (.lst ((p.map Lab.t).map V.str)))
      ⟨_, _, rfl, s0, by rw [upd_ne DL]; exact upd_same, upd_same⟩ (fun i σ H2 _ h => ?_) (fun i x σ H2 hx h => ?_) (fun σ H2 h => ?_)
    · obtain ⟨_, _, _, _, _, h⟩ := h
      exact SqL.of h
    · obtain ⟨y4, y5, rfl, sm, hD, hL⟩ := h
      rw [List.map_map] at hx
      obtain ⟨l, hl, rfl⟩ := map_at hx
      have hm := List.mem_of_getElem? hl
      have lr := prd l hm
      have ll := Lab.rlen hots lr
      have hi := (List.getElem?_eq_some_iff.mp hl).1
      have lim : ((p.take i).map Lab.v).length < sizeLine := by
        rw [List.length_map, List.length_take]
        exact Nat.lt_of_le_of_lt (Nat.min_le_left _ _) (Nat.lt_of_lt_of_le (by omega) (big_le (n := 1000) (by decide)))
      have hfl : (ots.map V.str).all flatV = true := flatS ots
      have add : ∀ (H3 : Hp) (b : Bool), Same H2 H3 → ∃ acc, H3 D = some (.lst acc) ∧ acc.length < sizeLine ∧ ∃ z4 z5, [some (V.ref r), some (.str (pathT p)), some (.ref o), some (.ref D), some (.str l.t), some (.bl b)] = [some (V.ref r), some (.str (pathT p)), some (.ref o), some (.ref D), z4, z5] ∧ Same H (upd H3 D (.lst (acc ++ [l.v]))) ∧ (upd H3 D (.lst (acc ++ [l.v]))) D = some (.lst ((p.take (i + 1)).map Lab.v)) ∧ (upd H3 D (.lst (acc ++ [l.v]))) L = some (.lst ((p.map Lab.t).map V.str)) := fun H3 b s3 => by
        refine ⟨_, s3 _ _ hD, lim, _, _, rfl, same_put (sm.trans s3) nD, ?_, ?_⟩
        · rw [upd_same, take_lab hl]
        · rw [upd_ne DL.symm]
          exact s3 _ _ hL
      refine ⟨.str l.t, rfl, l.t, rfl, by omega, fun H3 s3 => ⟨_, rfl, ?_⟩⟩
      have hoS := SqT.tk (tk_same (sm.trans s3)) ho
      have hrS := hr0.same (sm.trans s3)
      cases l with
      | w x =>
        obtain ⟨acc, a1, a2, a3⟩ := add H3 true s3
        rcases Bool.eq_false_or_eq_true (isName x) with e | e
        · rw [show isName (Lab.w x).t = true from e]
          exact iteT ⟨.ref D, rfl, .inl ⟨rfl, _, SqL.of a1⟩, .bl true, rfl, true, rfl, iteT ⟨.str x, rfl, D, acc, _, rfl, rfl, a1, a2, a3⟩⟩
        · rw [show isName (Lab.w x).t = false from e]
          have hin : x ∈ ots := by
            rcases lr with h | h
            · rw [e] at h
              cases h
            · exact h
          have e2 : inV (.str x) (ots.map V.str) = true := by
            rw [inS]
            exact decide_eq_true hin
          refine iteF ⟨.str x, rfl, .ref o, rfl, o, _, rfl, .inr hoS, rfl, hfl, ?_⟩
          have fin : ∀ b : Bool, b = true → ∃ z : V, z = .bl b ∧ b = true := fun b h => ⟨_, rfl, h⟩
          rw [e2]
          exact ⟨.ref D, rfl, .inl ⟨rfl, _, SqL.of a1⟩, .bl true, rfl, true, rfl, iteT ⟨.str x, rfl, D, acc, _, rfl, rfl, a1, a2, a3⟩⟩
      | n k =>
        obtain ⟨dx, t, L0, hro⟩ := hrS
        rw [show isName (Lab.n k).t = false from sh_no k]
        have e2 : inV (.str (sh k)) (ots.map V.str) = false := by
          rw [inS]
          refine decide_eq_false fun hm => ?_
          rcases hots with rfl | rfl
          · cases hm
          · have : sh k = "*" := by simpa using hm
            have h2 : cs (sh k) = [42] := by rw [this]; rfl
            rw [cs_sh] at h2
            cases h2
        refine iteF ⟨.str (sh k), rfl, .ref o, rfl, o, _, rfl, .inr hoS, rfl, hfl, ?_⟩
        rw [e2]
        refine ⟨.ref D, rfl, .inl ⟨rfl, _, SqL.of (s3 _ _ hD)⟩, .bl false, rfl, false, rfl, iteF ⟨.ref r, rfl, r, dx, _, rfl, hro, rf_no _ _ (by decide +kernel) (by decide +kernel), .str (sh k), rfl, r, k, rfl, ⟨dx, t, L0, hro⟩, lr, fun H4 s4 => ?_⟩⟩
        obtain ⟨acc, a1, a2, a3⟩ := add H4 false (s3.trans s4)
        exact ⟨D, acc, _, rfl, rfl, a1, a2, a3⟩
    · obtain ⟨y4, y5, rfl, sm, hD, hL⟩ := h
      rw [List.length_map, List.length_map, List.take_length] at hD
      refine ⟨.ref D, rfl, D, _, rfl, .inl ⟨SqL.of hD, fun a na => ?_⟩⟩
      exact q _ a (same_put sm (sm.free na)) (.tup (SqT.of upd_same) (labs_tv p))
theorem path_signs {ots : List Str} (ho : ots = [] ∨ ots = [("*" : Str)]) {p : Path} (h : ∀ l ∈ p, l.rd ots) : ∀ c ∈ cs (pathT p), (97 ≤ c ∧ c ≤ 122) ∨ (48 ≤ c ∧ c ≤ 57) ∨ c = 35 ∨ c = 42 ∨ c = 46 := fun c hc => by
  unfold pathT at hc
  rw [cs_join] at hc
  have : ∀ (ws : List (List Nat)), (∀ x ∈ ws, ∀ c ∈ x, (97 ≤ c ∧ c ≤ 122) ∨ (48 ≤ c ∧ c ≤ 57) ∨ c = 35 ∨ c = 42 ∨ c = 46) → ∀ c ∈ jn [46] ws, (97 ≤ c ∧ c ≤ 122) ∨ (48 ≤ c ∧ c ≤ 57) ∨ c = 35 ∨ c = 42 ∨ c = 46 := by
    intro ws
    induction ws with
    | nil => exact fun _ c hc => nomatch hc
    | cons x r ih =>
      intro h c hc
      cases r with
      | nil => exact h x (List.mem_cons_self ..) c hc
      | cons y r =>
        rw [jn_cons [46] x (by simp)] at hc
        rcases List.mem_append.mp hc with hc | hc
        · rcases List.mem_append.mp hc with hc | hc
          · exact h x (List.mem_cons_self ..) c hc
          · exact .inr (.inr (.inr (.inr (by simpa using hc))))
        · exact ih (fun z hz => h z (List.mem_cons_of_mem _ hz)) c hc
  refine this _ (fun x hx c hc => ?_) c hc
  obtain ⟨y, hy, rfl⟩ := List.mem_map.mp hx
  obtain ⟨l, hl, rfl⟩ := List.mem_map.mp hy
  rcases Lab.signs ho (h l hl) c hc with h | h | h | h
  · exact .inl h
  · exact .inr (.inl h)
  · exact .inr (.inr (.inl h))
  · exact .inr (.inr (.inr (.inl h)))
def Place.rd (x : Place) : Prop := isName x.1 = true ∧ x.2 ≠ [] ∧ x.2.length ≤ 60 ∧ ∀ l ∈ x.2, l.rd []
theorem path_len {ots : List Str} (ho : ots = [] ∨ ots = [("*" : Str)]) {p : Path} (h60 : p.length ≤ 60) (h : ∀ l ∈ p, l.rd ots) : (pathT p).length ≤ 4000 := by
  have lsum : ∀ q : Path, (∀ l ∈ q, l.rd ots) → ((q.map Lab.t).map (·.length)).sum ≤ 31 * q.length := by
    intro q
    induction q with
    | nil => exact fun _ => Nat.le_refl _
    | cons l r ih =>
      intro h
      have h1 := ih fun x hx => h x (List.mem_cons_of_mem _ hx)
      have h2 := Lab.rlen ho (h l (List.mem_cons_self ..))
      rw [List.map_cons, List.map_cons, List.sum_cons, List.length_cons]
      omega
  have h1 := join_le "." (p.map Lab.t)
  have h2 := lsum p h
  have e : ("." : Str).length = 1 := rfl
  rw [e, List.length_map] at h1
  unfold pathT
  omega
def spPlace (K : PySem.W.Frag) (C : Addr) : Sp := fun vs H Q _ => ∃ (r : Addr) (x : Place), vs = [.ref r, .str (placeT x)] ∧ ObjR C H r ∧ Place.rd x ∧ ∀ H' a, Same H H' → TV K H' (.ref a) (placeD x) → Q (.ref a) H'
theorem ok_place {f : Addr} {fd : FuncData} (F : Fun K "read_place" "Reading.read_place" rPlace f fd) (T : Bl K mg) (R : Rg K mg C) (m_read_path : DnM P w K mg base C "read_path" 3 ["self", "text", "others"] (spPath K C)) (d_is_name : DnO P w K mg base "is_name" 2 ["value"] spNm) :
    FnOk P w K mg base CX0 4 f fd ["self", "word"] (spPlace K C) := by
  refine F.ok sr7 (fun vs H Q E h => ?_) (fun cdv A outer s H vs Q E hr h => ?_)
  · obtain ⟨r, x, rfl, _⟩ := h
    rfl
  · obtain ⟨r, ⟨fx, p⟩, rfl, hr0, ⟨nf, pne, p60, prd⟩, q⟩ := h
    refine ⟨_, (pss_cons (ps_set (i := 2) sr7.nd rfl (Or.inl rfl) (pe_split (pv 1) (pe_glob (v := .str "/") (by rfl) T.cslash.choose_spec ⟨_, rfl⟩)))
      (pss_cons (ps_if (PW.pt (pw_or (pt_cmpR op_ne (pe_callB call_len_seq (by rfl) T.len (by decide +kernel) (pa_cons (pv 2) pa_nil)) (pe_glob (v := .int 2) (by rfl) T.cplaceparts.choose_spec ⟨_, rfl⟩) (nomark _)) (pw_or1 (pt_not (pt_val (pe_call d_is_name.ok (hr.mono (by omega)) (by rfl) d_is_name.g d_is_name.kp d_is_name.b .nil pass0 (pa_cons (pe_ix (r := rIxL K) ix_list (pv 2) pe_int (fun _ _ => rfl)) pa_nil)))))))
        (pss_one ps_never)
        pss_nil)
      (pss_one (ps_ret (pe_tup (pa_cons (pe_ix (r := rIxL K) ix_list (pv 2) pe_int (fun _ _ => rfl)) (pa_cons (pe_meth (pv 0) R.cl m_read_path.mt m_read_path.ok (hr.mono (by omega)) m_read_path.b .nil pass0 (pa_cons (pe_ix (r := rIxL K) ix_list (pv 2) pe_int (fun _ _ => rfl)) (pa_cons (pe_tup pa_nil) pa_nil))) pa_nil))))))), ?_⟩
    have nl : low fx = true ∧ 1 ≤ fx.length ∧ fx.length ≤ 12 := name_low nf
    have pl : (pathT p).length ≤ 4000 := path_len (.inl rfl) p60 prd
    have hsp : Txt.split (placeT (fx, p)) "/" = [fx, pathT p] := by
      have e : placeT (fx, p) = Txt.join "/" [fx, pathT p] := by
        apply str_ext
        rw [cs_join]
        show cs (fx ++ "/" ++ pathT p) = _
        rw [cs_app, cs_app]
        rfl
      rw [e]
      exact split_join (y := "/") (s := 47) (S := []) rfl (by decide +kernel) (by simp) (fun y hy hm => by
        rcases List.mem_cons.mp hy with rfl | hy
        · have := low_mem nl.1 47 hm
          omega
        · have : y = pathT p := by simpa using hy
          subst this
          rcases path_signs (.inl rfl) prd 47 hm with h | h | h | h | h <;> omega)
    have plen : (placeT (fx, p)).length ≤ 5000 := by
      unfold placeT
      rw [len_app, len_app]
      have e : ("/" : Str).length = 1 := rfl
      have := nl.2.2
      show fx.length + 1 + (pathT p).length ≤ 5000
      omega
    refine ⟨.str (placeT (fx, p)), rfl, ⟨_, rfl⟩, _, _, rfl, rfl, rfl, Nat.le_trans (by omega : (placeT (fx, p)).length + 2 ≤ 6000) (by decide), ?_⟩
    rw [hsp]
    intro L nL
    have s0 := same_new (o := .lst ([fx, pathT p].map V.str)) nL
    have hL : (upd H L (.lst ([fx, pathT p].map V.str))) L = some (.lst [.str fx, .str (pathT p)]) := upd_same
    refine ⟨.ref L, rfl, L, _, rfl, .inl (SqL.of hL), rfl, _, rfl, iteF ?_⟩
    refine ⟨.ref L, rfl, L, _, 0, .str fx, rfl, rfl, SqL.of hL, rfl, fx, rfl, by have := nl.2.2; show fx.length ≤ 1000; omega, fun H1 s1 => ⟨_, rfl, ?_⟩⟩
    rw [nf]
    refine iteF ?_
    have hL1 := s1 _ _ hL
    obtain ⟨dx, t, L0, hro⟩ := hr0.same (s0.trans s1)
    refine ⟨.ref L, rfl, L, _, 0, .str fx, rfl, rfl, SqL.of hL1, rfl, .ref r, rfl, r, dx, _, rfl, hro, rf_no _ _ (by decide +kernel) (by decide +kernel), .ref L, rfl, L, _, 1, .str (pathT p), rfl, rfl, SqL.of hL1, rfl, by show 0 ≤ sizeLine; decide, fun o no => ?_⟩
    have so := same_new (o := .tup []) no
    refine ⟨r, o, [], p, rfl, ⟨dx, t, L0, so _ _ hro⟩, SqT.of upd_same, .inl rfl, pne, p60, prd, fun H2 a s2 tv => ⟨by show 2 ≤ sizeLine; decide, fun b nb => ?_⟩⟩
    have sb := same_new (o := .tup [.str fx, .ref a]) nb
    exact q _ b ((s0.trans s1).trans ((so.trans s2).trans sb)) (.tup (SqT.of upd_same) (.cons (.str fx) (.cons (tv.tk (tk_same sb)) .nil)))
def Spot.rd (x : Spot) : Prop := isName x.f = true ∧ (x.o = "" ∨ isName x.o = true) ∧ x.p ≠ [] ∧ x.p.length ≤ 60 ∧ ∀ l ∈ x.p, l.rd [("*" : Str)]
def spSpot (K : PySem.W.Frag) (C : Addr) : Sp := fun vs H Q _ => ∃ (r : Addr) (x : Spot), vs = [.ref r, .str x.t] ∧ ObjR C H r ∧ x.rd ∧ ∀ H' a, Same H H' → TV K H' (.ref a) x.d → Q (.ref a) H'
theorem ok_spot {f : Addr} {fd : FuncData} (F : Fun K "read_spot" "Reading.read_spot" rSpot f fd) (T : Bl K mg) (R : Rg K mg C) (m_read_path : DnM P w K mg base C "read_path" 3 ["self", "text", "others"] (spPath K C)) (d_is_name : DnO P w K mg base "is_name" 2 ["value"] spNm) :
    FnOk P w K mg base CX0 4 f fd ["self", "word"] (spSpot K C) := by
  refine F.ok sr8 (fun vs H Q E h => ?_) (fun cdv A outer s H vs Q E hr h => ?_)
  · obtain ⟨r, x, rfl, _⟩ := h
    rfl
  · obtain ⟨r, ⟨fx, ox, p⟩, rfl, hr0, ⟨nf, no, pne, p60, prd⟩, q⟩ := h
    refine ⟨_, (pss_cons (ps_set (i := 2) sr8.nd rfl (Or.inl rfl) (pe_split (pv 1) (pe_glob (v := .str "/") (by rfl) T.cslash.choose_spec ⟨_, rfl⟩)))
      (pss_cons (ps_if (PW.pt (pw_or (pt_cmpR op_ne (pe_callB call_len_seq (by rfl) T.len (by decide +kernel) (pa_cons (pv 2) pa_nil)) (pe_glob (v := .int 3) (by rfl) T.cspotparts.choose_spec ⟨_, rfl⟩) (nomark _)) (pw_or (pt_not (pt_val (pe_call d_is_name.ok (hr.mono (by omega)) (by rfl) d_is_name.g d_is_name.kp d_is_name.b .nil pass0 (pa_cons (pe_ix (r := rIxL K) ix_list (pv 2) pe_int (fun _ _ => rfl)) pa_nil)))) (pw_or1 (PW.pt (pw_and (pt_cmpR op_ne (pe_ix (r := rIxL K) ix_list (pv 2) pe_int (fun _ _ => rfl)) pe_str (nomark _)) (pw_and1 (pt_not (pt_val (pe_call d_is_name.ok (hr.mono (by omega)) (by rfl) d_is_name.g d_is_name.kp d_is_name.b .nil pass0 (pa_cons (pe_ix (r := rIxL K) ix_list (pv 2) pe_int (fun _ _ => rfl)) pa_nil)))))))))))
        (pss_one ps_never)
        pss_nil)
      (pss_one (ps_ret (pe_tup (pa_cons (pe_ix (r := rIxL K) ix_list (pv 2) pe_int (fun _ _ => rfl)) (pa_cons (pe_ix (r := rIxL K) ix_list (pv 2) pe_int (fun _ _ => rfl)) (pa_cons (pe_meth (pv 0) R.cl m_read_path.mt m_read_path.ok (hr.mono (by omega)) m_read_path.b .nil pass0 (pa_cons (pe_ix (r := rIxL K) ix_list (pv 2) pe_int (fun _ _ => rfl)) (pa_cons (pe_tup (pa_cons (pe_glob (v := .str "*") (by rfl) T.cevery.choose_spec ⟨_, rfl⟩) pa_nil)) pa_nil))) pa_nil)))))))), ?_⟩
    have nl : low fx = true ∧ 1 ≤ fx.length ∧ fx.length ≤ 12 := name_low nf
    have pl : (pathT p).length ≤ 4000 := path_len (.inr rfl) p60 prd
    have no : ox = "" ∨ isName ox = true := no
    have ol : ox.length ≤ 12 ∧ ∀ c ∈ cs ox, 97 ≤ c ∧ c ≤ 122 := by
      rcases no with rfl | no
      · exact ⟨by decide, fun c hc => nomatch hc⟩
      · exact ⟨(name_low no).2.2, low_mem (name_low no).1⟩
    have hsp : Txt.split (Spot.t ⟨fx, ox, p⟩) "/" = [fx, ox, pathT p] := by
      show Txt.split (Txt.join "/" [fx, ox, pathT p]) "/" = _
      exact split_join (y := "/") (s := 47) (S := []) rfl (by decide +kernel) (by simp) (fun y hy hm => by
        rcases List.mem_cons.mp hy with rfl | hy
        · have := low_mem nl.1 47 hm
          omega
        · rcases List.mem_cons.mp hy with rfl | hy
          · have := ol.2 47 hm
            omega
          · have : y = pathT p := by simpa using hy
            subst this
            rcases path_signs (.inr rfl) prd 47 hm with h | h | h | h | h <;> omega)
    have plen : (Spot.t ⟨fx, ox, p⟩).length ≤ 5000 := by
      have h1 := join_le "/" [fx, ox, pathT p]
      have e : ("/" : Str).length = 1 := rfl
      rw [e] at h1
      simp only [List.map_cons, List.map_nil, List.sum_cons, List.sum_nil, List.length_cons, List.length_nil] at h1
      unfold Spot.t
      have := ol.1
      show (Txt.join "/" [fx, ox, pathT p]).length ≤ 5000
      omega
    refine ⟨.str (Spot.t ⟨fx, ox, p⟩), rfl, ⟨_, rfl⟩, _, _, rfl, rfl, rfl, Nat.le_trans (by omega : (Spot.t ⟨fx, ox, p⟩).length + 2 ≤ 6000) (by decide), ?_⟩
    rw [hsp]
    intro L nL
    have s0 := same_new (o := .lst ([fx, ox, pathT p].map V.str)) nL
    have hL : (upd H L (.lst ([fx, ox, pathT p].map V.str))) L = some (.lst [.str fx, .str ox, .str (pathT p)]) := upd_same
    refine ⟨.ref L, rfl, L, _, rfl, .inl (SqL.of hL), rfl, _, rfl, iteF ?_⟩
    refine ⟨.ref L, rfl, L, _, 0, .str fx, rfl, rfl, SqL.of hL, rfl, fx, rfl, by show fx.length ≤ 1000; omega, fun H1 s1 => ⟨_, rfl, ?_⟩⟩
    rw [nf]
    refine iteF ?_
    have hL1 := s1 _ _ hL
    refine ⟨.ref L, rfl, L, _, 1, .str ox, rfl, rfl, SqL.of hL1, rfl, rfl, _, rfl, ite2 (fun e => ?_) (fun e => ?_)⟩
    · have e1 : ¬ ox = "" := by
        have : (!decide (V.str ox = V.str "")) = true := e
        intro z
        subst z
        simp at this
      have n2 : isName ox = true := no.resolve_left e1
      refine ⟨.ref L, rfl, L, _, 1, .str ox, rfl, rfl, SqL.of hL1, rfl, ox, rfl, by have := ol.1; omega, fun H3 s3 => ⟨_, rfl, ?_⟩⟩
      rw [n2]
      refine iteF ?_
      have hL3 := s3 _ _ hL1
      obtain ⟨dx, t, L0, hro⟩ := hr0.same ((s0.trans s1).trans s3)
      refine ⟨.ref L, rfl, L, _, 0, .str fx, rfl, rfl, SqL.of hL3, rfl, .ref L, rfl, L, _, 1, .str ox, rfl, rfl, SqL.of hL3, rfl, .ref r, rfl, r, dx, _, rfl, hro, rf_no _ _ (by decide +kernel) (by decide +kernel), .ref L, rfl, L, _, 2, .str (pathT p), rfl, rfl, SqL.of hL3, rfl, by show 1 ≤ sizeLine; decide, fun o no => ?_⟩
      have so := same_new (o := .tup [.str "*"]) no
      refine ⟨r, o, [("*" : Str)], p, rfl, ⟨dx, t, L0, so _ _ hro⟩, SqT.of upd_same, .inr rfl, pne, p60, prd, fun H2 a s2 tv => ⟨by show 3 ≤ sizeLine; decide, fun b nb => ?_⟩⟩
      have sb := same_new (o := .tup [.str fx, .str ox, .ref a]) nb
      exact q _ b (((s0.trans s1).trans s3).trans ((so.trans s2).trans sb)) (.tup (SqT.of upd_same) (.cons (.str fx) (.cons (.str ox) (.cons (tv.tk (tk_same sb)) .nil))))
    · obtain ⟨dx, t, L0, hro⟩ := hr0.same (s0.trans s1)
      refine ⟨.ref L, rfl, L, _, 0, .str fx, rfl, rfl, SqL.of hL1, rfl, .ref L, rfl, L, _, 1, .str ox, rfl, rfl, SqL.of hL1, rfl, .ref r, rfl, r, dx, _, rfl, hro, rf_no _ _ (by decide +kernel) (by decide +kernel), .ref L, rfl, L, _, 2, .str (pathT p), rfl, rfl, SqL.of hL1, rfl, by show 1 ≤ sizeLine; decide, fun o no => ?_⟩
      have so := same_new (o := .tup [.str "*"]) no
      refine ⟨r, o, [("*" : Str)], p, rfl, ⟨dx, t, L0, so _ _ hro⟩, SqT.of upd_same, .inr rfl, pne, p60, prd, fun H2 a s2 tv => ⟨by show 3 ≤ sizeLine; decide, fun b nb => ?_⟩⟩
      have sb := same_new (o := .tup [.str fx, .str ox, .ref a]) nb
      exact q _ b ((s0.trans s1).trans ((so.trans s2).trans sb)) (.tup (SqT.of upd_same) (.cons (.str fx) (.cons (.str ox) (.cons (tv.tk (tk_same sb)) .nil))))
end
end M91

set_option Elab.async false
set_option linter.all false
set_option maxRecDepth 100000
set_option maxHeartbeats 4000000
/-! read_worth, read_whole_record, read_record -/
namespace M91
open PySem PySem.Spec PyProof.Rows L2 GL TL
theorem sr9 : FnScope ["self", "deep", "word", "found", "serial"] ["self", "deep"] (defScope rWorth) := ⟨rfl, rfl, rfl, by decide +kernel, rfl, by decide +kernel, by decide +kernel⟩
theorem sr10 : FnScope ["self", "deep"] ["self", "deep"] (defScope rWhole) := ⟨rfl, rfl, rfl, by decide +kernel, rfl, by decide +kernel, by decide +kernel⟩
theorem sr11 : FnScope ["self", "deep", "found", "word"] ["self", "deep"] (defScope rRec) := ⟨rfl, rfl, rfl, by decide +kernel, rfl, by decide +kernel, by decide +kernel⟩
mutual
/-- what can be read -/
def Wo.rd : Wo → Prop
  | .lit l => l.rd
  | .rc r => r.rd
  | .rw t => t.rd
def Rc.rd : Rc → Prop
  | .nil => True
  | .cons n w r => isName n = true ∧ w.rd ∧ r.rd
def Rw.rd : Rw → Prop
  | .nil => True
  | .cons k r t => k < 2 ^ 60 ∧ r.rd ∧ t.rd
end
theorem len_S (l : List Nat) : (S l).length = l.length := by rw [len_cs, cs_S]
theorem cut_last (z : List Nat) (c : Nat) : cutS (S (z ++ [c])) (some (-1 : Int)) none = S [c] := by
  have l : (S (z ++ [c])).length = z.length + 1 := by rw [len_S, List.length_append]; rfl
  have e1 : HT.sIx (S (z ++ [c])).length 0 (some (-1 : Int)) = z.length := by
    show (if (-1 : Int) < 0 then ((-1 : Int) + ((S (z ++ [c])).length : Int)).toNat else min (-1 : Int).toNat (S (z ++ [c])).length) = _
    rw [if_pos (by decide), l]
    omega
  have e3 : z.length + 1 - z.length = 1 := by omega
  unfold cutS
  rw [e1, HT.sIx_none, l, e3]
  show S (((cs (S (z ++ [c]))).drop z.length).take 1) = _
  rw [cs_S, List.drop_left]
  rfl
theorem cut_init (z : List Nat) (c : Nat) : cutS (S (z ++ [c])) none (some (-1 : Int)) = S z := by
  have l : (S (z ++ [c])).length = z.length + 1 := by rw [len_S, List.length_append]; rfl
  have e1 : HT.sIx (S (z ++ [c])).length (S (z ++ [c])).length (some (-1 : Int)) = z.length := by
    show (if (-1 : Int) < 0 then ((-1 : Int) + ((S (z ++ [c])).length : Int)).toNat else min (-1 : Int).toNat (S (z ++ [c])).length) = _
    rw [if_pos (by decide), l]
    omega
  unfold cutS
  rw [e1, HT.sIx_none]
  show S (((cs (S (z ++ [c]))).drop 0).take (z.length - 0)) = _
  rw [cs_S, List.drop_zero, Nat.sub_zero, List.take_left]
theorem S_ne {a b : List Nat} (h : a ≠ b) : ¬ V.str (S a) = V.str (S b) := fun e => by
  injection e with e
  exact h (S_inj e)
theorem lit_first {l : Lit} (h : l.rd) : ∃ c r, cs l.t = c :: r ∧ (c = 34 ∨ c = 45 ∨ (48 ≤ c ∧ c ≤ 57)) := by
  cases l with
  | s x =>
    refine ⟨34, cs x ++ [34], ?_, .inl rfl⟩
    show cs ("\"" ++ x ++ "\"") = _
    rw [cs_app, cs_app]
    rfl
  | i n =>
    by_cases h0 : 0 ≤ n
    · have e : n = ((n.toNat : Nat) : Int) := by omega
      have hc := cs_num n.toNat
      rw [← e] at hc
      cases e2 : numL n.toNat with
      | nil => exact absurd e2 (numL_ne _)
      | cons c r =>
        have := numL_digits n.toNat c (by rw [e2]; exact List.mem_cons_self ..)
        refine ⟨c, r, ?_, .inr (.inr (by omega))⟩
        show cs (nT n) = _
        rw [hc, e2]
    · have e : n = -((n.natAbs : Nat) : Int) := by omega
      have hc := cs_neg n.natAbs (by omega)
      rw [← e] at hc
      exact ⟨45, _, hc, .inr (.inl rfl)⟩
section
variable {P : Program} {w : World} {K : PySem.W.Frag} {mg : Str → Option Value} {base : Heap} {C : Addr}
def spRecR (K : PySem.W.Frag) (C : Addr) (n : Nat) : Sp := fun vs H Q _ => ∃ (r L : Addr) (x : Rc) (ws : List (List Nat)) (d : Nat), vs = [.ref r, .int d] ∧ RdAt C H r L (x.W ++ [125] :: ws) ∧ (x.W ++ [125] :: ws).length ≤ 1000000 ∧ x.rd ∧ x.h ≤ n ∧ d + n ≤ 40 ∧
  ∀ H' a, Off L H H' → RdAt C H' r L ws → TV K H' (.ref a) (.tuple x.ds) → Q (.ref a) H'
def spWholeR (K : PySem.W.Frag) (C : Addr) (n : Nat) : Sp := fun vs H Q _ => ∃ (r L : Addr) (x : Rc) (ws : List (List Nat)) (d : Nat), vs = [.ref r, .int d] ∧ RdAt C H r L ([123] :: (x.W ++ [125] :: ws)) ∧ (x.W ++ [125] :: ws).length ≤ 1000000 ∧ x.rd ∧ x.h ≤ n ∧ d + n ≤ 40 ∧
  ∀ H' a, Off L H H' → RdAt C H' r L ws → TV K H' (.ref a) (.tuple x.ds) → Q (.ref a) H'
def spWorthR (K : PySem.W.Frag) (C : Addr) (n : Nat) : Sp := fun vs H Q _ => ∃ (r L : Addr) (x : Wo) (ws : List (List Nat)) (d : Nat), vs = [.ref r, .int d] ∧ RdAt C H r L (x.W ++ ws) ∧ (x.W ++ ws).length ≤ 1000000 ∧ x.rd ∧ x.h ≤ n ∧ d + n ≤ 41 ∧
  ∀ H' v, Off L H H' → RdAt C H' r L ws → TV K H' v x.d → Q v H'
theorem ok_whole {n : Nat} {f : Addr} {fd : FuncData} (F : Fun K "read_whole_record" "Reading.read_whole_record" rWhole f fd) (T : Bl K mg) (R : Rg K mg C) (m_next_word : DnM P w K mg base C "next_word" 1 ["self"] (spNext C)) (m_read_record : DnM P w K mg base C "read_record" (4 + 3 * n) ["self", "deep"] (spRecR K C n)) :
    FnOk P w K mg base CX0 (5 + 3 * n) f fd ["self", "deep"] (spWholeR K C n) := by
  have e3 : 5 + 3 * n = (4 + 3 * n) + 1 := by omega
  rw [e3]
  refine F.ok sr10 (fun vs H Q E h => ?_) (fun cdv A outer s H vs Q E hr h => ?_)
  · obtain ⟨r, L, x, ws, d, rfl, _⟩ := h
    rfl
  · obtain ⟨r, L, x, ws, d, rfl, hR, hl, hx, hh, hd, q⟩ := h
    have hR0 := hR
    obtain ⟨dx, t, h1, h2⟩ := hR
    refine ⟨_, (pss_cons (ps_if (pt_cmpR op_ne (pe_meth0 (pv 0) R.cl m_next_word.mt m_next_word.ok (hr.mono (by omega)) m_next_word.b .nil pass0) pe_str (nomark _))
        (pss_one ps_never)
        pss_nil)
      (pss_one (ps_ret (pe_meth (pv 0) R.cl m_read_record.mt m_read_record.ok (hr.mono (by omega)) m_read_record.b .nil pass0 (pa_cons (pv 1) pa_nil))))), ?_⟩
    refine ⟨.ref r, rfl, r, dx, _, rfl, h1, rf_no _ _ (by decide +kernel) (by decide +kernel), r, L, _, _, rfl, hR0, hl, fun H1 o1 R1 => ⟨rfl, _, rfl, iteF ?_⟩⟩
    have R1' := R1
    obtain ⟨dx1, t1, h11, h21⟩ := R1
    exact ⟨.ref r, rfl, r, dx1, _, rfl, h11, rf_no _ _ (by decide +kernel) (by decide +kernel), .int d, rfl, r, L, x, ws, d, rfl, R1', hl, hx, hh, hd, fun H' a o2 R2 tv => q H' a (o1.trans o2) R2 tv⟩
theorem ok_rec {n : Nat} {f : Addr} {fd : FuncData} (F : Fun K "read_record" "Reading.read_record" rRec f fd) (T : Bl K mg) (R : Rg K mg C) (m_next_word : DnM P w K mg base C "next_word" 1 ["self"] (spNext C)) (m_read_worth : DnM P w K mg base C "read_worth" (3 + 3 * n) ["self", "deep"] (spWorthR K C n))
    (d_is_name : DnO P w K mg base "is_name" 2 ["value"] spNm) : FnOk P w K mg base CX0 (4 + 3 * n) f fd ["self", "deep"] (spRecR K C n) := by
  have e3 : 4 + 3 * n = (3 + 3 * n) + 1 := by omega
  rw [e3]
  refine F.ok sr11 (fun vs H Q E h => ?_) (fun cdv A outer s H vs Q E hr h => ?_)
  · obtain ⟨r, L, x, ws, d, rfl, _⟩ := h
    rfl
  · obtain ⟨r, L, x, ws, d, rfl, hR, hl, hx, hh, hd, q⟩ := h
    refine ⟨_, (pss_cons (ps_if (pt_cmpR op_gt (pv 1) (pe_glob (v := .int 40) (by rfl) T.cmostdeep.choose_spec ⟨_, rfl⟩) (nomark _))
        (pss_one ps_never)
        pss_nil)
      (pss_cons (ps_set (i := 2) sr11.nd rfl (Or.inl rfl) (pe_lst pa_nil))
      (pss_cons (ps_set (i := 3) sr11.nd rfl (Or.inl rfl) (pe_meth0 (pv 0) R.cl m_next_word.mt m_next_word.ok (hr.mono (by omega)) m_next_word.b .nil pass0))
      (pss_cons (ps_while PassesOwn.never (pt_cmpR op_ne (pv 3) pe_str (nomark _))
        (pss_cons (ps_if (PW.pt (pw_or (pt_cmpR op_ne (pe_slice sl_str (pv 3) (po_some (pe_un un_neg pe_int)) po_none) pe_str (nomark _)) (pw_or1 (pt_not (pt_val (pe_call d_is_name.ok (hr.mono (by omega)) (by rfl) d_is_name.g d_is_name.kp d_is_name.b .nil pass0 (pa_cons (pe_slice sl_str (pv 3) po_none (po_some (pe_un un_neg pe_int))) pa_nil)))))))
          (pss_one ps_never)
          pss_nil)
        (pss_cons (ps_expr (pe_bm PySem.F.plainAttrs_list PySem.F.slot_list_append PySem.F.type_list_append mt_append (pv 2) (pa_cons (pe_tup (pa_cons (pe_slice sl_str (pv 3) po_none (po_some (pe_un un_neg pe_int))) (pa_cons (pe_meth (pv 0) R.cl m_read_worth.mt m_read_worth.ok (hr.mono (by omega)) m_read_worth.b .nil pass0 (pa_cons (pe_op op_add (pv 1) pe_int) pa_nil)) pa_nil))) pa_nil)))
        (pss_one (ps_set (i := 3) sr11.nd rfl (Or.inl rfl) (pe_meth0 (pv 0) R.cl m_next_word.mt m_next_word.ok (hr.mono (by omega)) m_next_word.b .nil pass0))))))
      (pss_one (ps_ret (pe_callTy call_tuple_of (by rfl) T.tuple (by decide +kernel) (pa_cons (pv 2) pa_nil)))))))), ?_⟩
    refine ⟨.int d, rfl, (d : Int), 40, rfl, rfl, _, rfl, ?_⟩
    rw [decide_eq_false (show ¬ (d : Int) > 40 by omega)]
    refine iteF ⟨Nat.zero_le _, fun D nD => ?_⟩
    have hLs : H L ≠ none := fun e => by
      obtain ⟨_, _, _, h2⟩ := hR
      rw [e] at h2
      cases h2
    have DL : D ≠ L := fun e => hLs (e ▸ nD)
    have sD := same_new (o := .lst []) nD
    have R0 := hR.same sD
    obtain ⟨c0, tl0, hc0⟩ : ∃ c tl, x.W ++ [125] :: ws = c :: tl := by
      cases e : x.W ++ [125] :: ws with
      | nil => simp at e
      | cons c tl => exact ⟨c, tl, rfl⟩
    rw [hc0] at R0
    have R0' := R0
    obtain ⟨dx, t, h1, h2⟩ := R0
    have ltl : tl0.length ≤ 1000000 := by
      rw [hc0] at hl
      have : tl0.length + 1 ≤ 1000000 := hl
      omega
    refine ⟨.ref r, rfl, r, dx, _, rfl, h1, rf_no _ _ (by decide +kernel) (by decide +kernel), r, L, c0, tl0, rfl, R0', ltl, fun H1 o1 R1 => ?_⟩
    refine ⟨fun k σ H2 => ∃ (y : Rc) (vs : List V) (ds : List PyData) (c : List Nat) (tl : List (List Nat)), σ = [some (.ref r), some (.int d), some (.ref D), some (.str (S c))] ∧ Off L H H2 ∧ H2 D = some (.lst vs) ∧ TVs K H2 vs ds ∧ ds ++ y.ds = x.ds ∧ y.W ++ [125] :: ws = c :: tl ∧ RdAt C H2 r L tl ∧ y.rd ∧ y.h ≤ n ∧ tl.length + vs.length ≤ 1000000 ∧ k = tl.length,
      ⟨tl0.length, x, [], [], c0, tl0, rfl, (off_same sD).trans o1, o1 D _ DL upd_same, .nil, rfl, hc0, R1, hx, hh, ltl, rfl⟩, fun k σ H2 h => ?_⟩
    obtain ⟨y, vs, ds, c, tl, rfl, oH, hD, tvs, eds, hc, R2, yr, yh, lk, rfl⟩ := h
    cases y with
    | nil =>
      have ec : c = [125] ∧ tl = ws := by
        have : [125] :: ws = c :: tl := hc
        exact ⟨(List.cons.inj this).1.symm, (List.cons.inj this).2.symm⟩
      obtain ⟨rfl, rfl⟩ := ec
      refine ⟨.str (S [125]), rfl, rfl, _, rfl, iteF ?_⟩
      refine ⟨.ref D, rfl, D, _, rfl, .inl ⟨SqL.of hD, fun a na => ?_⟩⟩
      have sa := same_new (o := .tup vs) na
      refine q _ a (oH.trans (off_same sa)) (R2.same sa) (.tup (SqT.of upd_same) ?_)
      have : ds = x.ds := by
        have e := eds
        show ds = x.ds
        rw [← e]
        exact (List.append_nil ds).symm
      rw [← this]
      exact tvs.tk (tk_same sa)
    | cons nm wo y =>
      obtain ⟨yn, yw, yr⟩ := yr
      have hyh : wo.h ≤ n ∧ y.h ≤ n := by
        have : max wo.h y.h ≤ n := yh
        omega
      have nl := name_low yn
      have ec : c = cs nm ++ [58] ∧ tl = wo.W ++ (y.W ++ [125] :: ws) := by
        have : (cs nm ++ [58]) :: (wo.W ++ y.W) ++ [125] :: ws = c :: tl := hc
        have h2 : (cs nm ++ [58]) :: ((wo.W ++ y.W) ++ [125] :: ws) = c :: tl := this
        exact ⟨(List.cons.inj h2).1.symm, by rw [← (List.cons.inj h2).2, List.append_assoc]⟩
      obtain ⟨rfl, rfl⟩ := ec
      have lz : (S (cs nm ++ [58])).length = nm.length + 1 := by
        rw [len_S, List.length_append, ← len_cs]
        rfl
      have szz : (S (cs nm ++ [58])).length ≤ sizeLine := big_le (by omega)
      have ne1 : ¬ V.str (S (cs nm ++ [58])) = V.str "}" := fun e => by
        injection e with e
        have e2 : cs (S (cs nm ++ [58])) = [125] := by rw [e]; rfl
        rw [cs_S] at e2
        have := congrArg List.getLast? e2
        simp at this
      refine ⟨.str (S (cs nm ++ [58])), rfl, rfl, _, rfl, ?_⟩
      rw [decide_eq_false ne1]
      refine iteT ?_
      refine ⟨fun σ' H' => ∃ m', m' < (wo.W ++ (y.W ++ [125] :: ws)).length ∧ (∃ (y : Rc) (vs : List V) (ds : List PyData) (c : List Nat) (tl : List (List Nat)), σ' = [some (.ref r), some (.int d), some (.ref D), some (.str (S c))] ∧ Off L H H' ∧ H' D = some (.lst vs) ∧ TVs K H' vs ds ∧ ds ++ y.ds = x.ds ∧ y.W ++ [125] :: ws = c :: tl ∧ RdAt C H' r L tl ∧ y.rd ∧ y.h ≤ n ∧ tl.length + vs.length ≤ 1000000 ∧ m' = tl.length), fun _ _ h => h, ?_⟩
      refine ⟨.str (S (cs nm ++ [58])), rfl, 1, rfl, -1, rfl, _, rfl, szz, rfl, _, rfl, ?_⟩
      rw [cut_last]
      refine iteF ?_
      refine ⟨.str (S (cs nm ++ [58])), rfl, 1, rfl, -1, rfl, _, rfl, szz, ?_⟩
      rw [cut_init, S_cs]
      refine ⟨nm, rfl, by omega, fun H3 s3 => ⟨_, rfl, ?_⟩⟩
      rw [yn]
      refine iteF ?_
      have R3 := R2.same s3
      have hD3 := s3 _ _ hD
      have R3' := R3
      obtain ⟨dx3, t3, h13, h23⟩ := R3
      refine ⟨.ref D, rfl, .inl ⟨rfl, _, SqL.of hD3⟩, .str (S (cs nm ++ [58])), rfl, 1, rfl, -1, rfl, _, rfl, szz, ?_⟩
      rw [cut_init, S_cs]
      refine ⟨.ref r, rfl, r, dx3, _, rfl, h13, rf_no _ _ (by decide +kernel) (by decide +kernel), .int d, rfl, (d : Int), 1, rfl, rfl, r, L, wo, y.W ++ [125] :: ws, d + 1, rfl, R3', by omega, yw, hyh.1, by omega, fun H4 v o4 R4 tv => ⟨by show 2 ≤ sizeLine; decide, fun tp ntp => ?_⟩⟩
      have hD4 := o4 D _ DL hD3
      have tk24 : TK H2 H4 := (tk_same s3).trans (off_tk h23 o4)
      have Dtp : D ≠ tp := ne_of_none hD4 ntp
      have stp := same_new (o := .tup [.str nm, v]) ntp
      have lvs : vs.length < sizeLine := Nat.lt_of_le_of_lt (by omega : vs.length ≤ 1000000) (by decide)
      refine ⟨D, _, _, rfl, rfl, stp _ _ hD4, lvs, ?_⟩
      have hD5 : ∀ b, H4 b ≠ none → b ≠ tp := fun b hb e => hb (e ▸ ntp)
      have tk45 : TK H4 (upd (upd H4 tp (.tup [.str nm, v])) D (.lst (vs ++ [.ref tp]))) := tk_lst (tk_new (TK.refl _) ntp) hD4
      have tvs5 : TVs K (upd (upd H4 tp (.tup [.str nm, v])) D (.lst (vs ++ [.ref tp]))) (vs ++ [.ref tp]) (ds ++ [.tuple [.str nm, wo.d]]) := by
        refine TVs.app (tvs.tk (tk24.trans tk45)) (.cons (.tup (SqT.of ?_) (.cons (.str nm) (.cons (tv.tk tk45) .nil))) .nil)
        rw [upd_ne Dtp.symm, upd_same]
      have o5 : Off L H4 (upd (upd H4 tp (.tup [.str nm, v])) D (.lst (vs ++ [.ref tp]))) → True := fun _ => trivial
      have oH5 : Off L H (upd (upd H4 tp (.tup [.str nm, v])) D (.lst (vs ++ [.ref tp]))) := fun b o nb hb => by
        have b4 := o4 b o nb (s3 _ _ (oH b o nb hb))
        rw [upd_ne (ne_of_none hb nD), upd_ne (ne_of_none b4 ntp)]
        exact b4
      have R5 : RdAt C (upd (upd H4 tp (.tup [.str nm, v])) D (.lst (vs ++ [.ref tp]))) r L (y.W ++ [125] :: ws) := by
        obtain ⟨dx4, t4, h14, h24⟩ := R4
        have rD : r ≠ D := ne_of h14 hD4 (by intro z; cases z)
        refine ⟨dx4, t4, ?_, ?_⟩
        · rw [upd_ne rD]
          exact stp _ _ h14
        · rw [upd_ne DL.symm]
          exact stp _ _ h24
      obtain ⟨c5, tl5, hc5⟩ : ∃ c tl, y.W ++ [125] :: ws = c :: tl := by
        cases e : y.W ++ [125] :: ws with
        | nil => simp at e
        | cons c tl => exact ⟨c, tl, rfl⟩
      rw [hc5] at R5
      have R5' := R5
      obtain ⟨dx5, t5, h15, h25⟩ := R5
      have lw : 1 ≤ wo.W.length := by
        cases e : wo.W with
        | nil => exact absurd e (Wo.W_ne wo)
        | cons a b => simp
      have l5 : (wo.W ++ (y.W ++ [125] :: ws)).length = wo.W.length + tl5.length + 1 := by
        rw [List.length_append, hc5, List.length_cons]
        omega
      refine ⟨.ref r, rfl, r, dx5, _, rfl, h15, rf_no _ _ (by decide +kernel) (by decide +kernel), r, L, c5, tl5, rfl, R5', by omega, fun H6 o6 R6 => ?_⟩
      refine ⟨tl5.length, by omega, y, vs ++ [.ref tp], ds ++ [.tuple [.str nm, wo.d]], c5, tl5, rfl, oH5.trans o6, o6 D _ DL upd_same, tvs5.tk (off_tk h25 o6), ?_, hc5, R6, yr, hyh.2, ?_, rfl⟩
      · rw [← eds, List.append_assoc]
        rfl
      · rw [List.length_append]
        show tl5.length + (vs.length + 1) ≤ 1000000
        omega
theorem ok_worth {n : Nat} {f : Addr} {fd : FuncData} (F : Fun K "read_worth" "Reading.read_worth" rWorth f fd) (T : Bl K mg) (R : Rg K mg C) (m_next_word : DnM P w K mg base C "next_word" 1 ["self"] (spNext C)) (m_read_serial : DnM P w K mg base C "read_serial" 2 ["self", "word"] (spSer C)) (m_read_literal : DnM P w K mg base C "read_literal" 2 ["self", "word"] (spLit C))
    (m_rec : 0 < n → DnM P w K mg base C "read_record" (1 + 3 * n) ["self", "deep"] (spRecR K C (n - 1))) (m_whole : 0 < n → DnM P w K mg base C "read_whole_record" (2 + 3 * n) ["self", "deep"] (spWholeR K C (n - 1))) : FnOk P w K mg base CX0 (3 + 3 * n) f fd ["self", "deep"] (spWorthR K C n) := by
  have e3 : 3 + 3 * n = (2 + 3 * n) + 1 := by omega
  rw [e3]
  refine F.ok sr9 (fun vs H Q E h => ?_) (fun cdv A outer s H vs Q E hr h => ?_)
  · obtain ⟨r, L, x, ws, d, rfl, _⟩ := h
    rfl
  · obtain ⟨r, L, x, ws, d, rfl, hR, hl, hx, hh, hd, q⟩ := h
    have R0' := hR
    obtain ⟨dx, t, h1, h2⟩ := hR
    cases x with
    | lit l =>
      refine ⟨_, (pss_cons (ps_set (i := 2) sr9.nd rfl (Or.inl rfl) (pe_meth0 (pv 0) R.cl m_next_word.mt m_next_word.ok (hr.mono (by omega)) m_next_word.b .nil pass0))
      (pss_cons (ps_if (pt_cmpR op_eq (pv 2) pe_str (nomark _))
        (pss_one ps_never)
        pss_nil)
      (pss_cons (ps_if (pt_cmpR op_ne (pv 2) pe_str (nomark _))
        (pss_one (ps_ret (pe_meth (pv 0) R.cl m_read_literal.mt m_read_literal.ok (hr.mono (by omega)) m_read_literal.b .nil pass0 (pa_cons (pv 2) pa_nil))))
        pss_nil)
      (pss_cons ps_never (pss_cons ps_never (pss_cons ps_never (pss_one ps_never))))))), ?_⟩
      have hx : l.rd := hx
      obtain ⟨c, tl, hc, hcc⟩ := lit_first hx
      have n1 : ¬ V.str (S (cs l.t)) = V.str "{" := fun e => by
        injection e with e
        have e2 : cs (S (cs l.t)) = [123] := by rw [e]; rfl
        rw [cs_S, hc] at e2
        have : c = 123 := (List.cons.inj e2).1
        omega
      have n2 : ¬ V.str (S (cs l.t)) = V.str "[" := fun e => by
        injection e with e
        have e2 : cs (S (cs l.t)) = [91] := by rw [e]; rfl
        rw [cs_S, hc] at e2
        have : c = 91 := (List.cons.inj e2).1
        omega
      have hlw : ws.length ≤ 1000000 := by
        have : ([cs l.t] ++ ws).length ≤ 1000000 := hl
        rw [List.length_append] at this
        omega
      refine ⟨.ref r, rfl, r, dx, _, rfl, h1, rf_no _ _ (by decide +kernel) (by decide +kernel), r, L, cs l.t, ws, rfl, R0', hlw, fun H1 o1 R1 => ?_⟩
      refine ⟨.str (S (cs l.t)), rfl, rfl, _, rfl, ?_⟩
      rw [decide_eq_false n1]
      refine iteF ?_
      refine ⟨.str (S (cs l.t)), rfl, rfl, _, rfl, ?_⟩
      rw [decide_eq_false n2]
      refine iteT ?_
      have R1' := R1
      obtain ⟨dx1, t1, h11, h21⟩ := R1
      refine ⟨.ref r, rfl, r, dx1, _, rfl, h11, rf_no _ _ (by decide +kernel) (by decide +kernel), .str (S (cs l.t)), rfl, r, l, by rw [S_cs]; rfl, R1'.obj, hx, fun H2 s2 => ?_⟩
      refine q H2 _ (o1.trans (off_same s2)) (R1'.same s2) ?_
      cases l with
      | s x => exact .str x
      | i n => exact .int n
    | rc x =>
      have h0 : 0 < n := by
        have : x.h + 1 ≤ n := hh
        omega
      have m_read_record := m_rec h0
      have m_read_whole_record := m_whole h0
      refine ⟨_, (pss_cons (ps_set (i := 2) sr9.nd rfl (Or.inl rfl) (pe_meth0 (pv 0) R.cl m_next_word.mt m_next_word.ok (hr.mono (by omega)) m_next_word.b .nil pass0))
      (pss_cons (ps_if (pt_cmpR op_eq (pv 2) pe_str (nomark _))
        (pss_one (ps_ret (pe_meth (pv 0) R.cl m_read_record.mt m_read_record.ok (hr.mono (by omega)) m_read_record.b .nil pass0 (pa_cons (pv 1) pa_nil))))
        pss_nil)
      (pss_cons (ps_if (pt_cmpR op_ne (pv 2) pe_str (nomark _))
        (pss_one (ps_ret (pe_meth (pv 0) R.cl m_read_literal.mt m_read_literal.ok (hr.mono (by omega)) m_read_literal.b .nil pass0 (pa_cons (pv 2) pa_nil))))
        pss_nil)
      (pss_cons (ps_set (i := 3) sr9.nd rfl (Or.inl rfl) (pe_lst pa_nil))
      (pss_cons (ps_set (i := 2) sr9.nd rfl (Or.inl rfl) (pe_meth0 (pv 0) R.cl m_next_word.mt m_next_word.ok (hr.mono (by omega)) m_next_word.b .nil pass0))
      (pss_cons (ps_while PassesOwn.never (pt_cmpR op_ne (pv 2) pe_str (nomark _))
        (pss_cons (ps_set (i := 4) sr9.nd rfl (Or.inl rfl) (pe_meth (pv 0) R.cl m_read_serial.mt m_read_serial.ok (hr.mono (by omega)) m_read_serial.b .nil pass0 (pa_cons (pv 2) pa_nil)))
        (pss_cons (ps_expr (pe_bm PySem.F.plainAttrs_list PySem.F.slot_list_append PySem.F.type_list_append mt_append (pv 3) (pa_cons (pe_tup (pa_cons (pv 4) (pa_cons (pe_meth (pv 0) R.cl m_read_whole_record.mt m_read_whole_record.ok (hr.mono (by omega)) m_read_whole_record.b .nil pass0 (pa_cons (pv 1) pa_nil)) pa_nil))) pa_nil)))
        (pss_one (ps_set (i := 2) sr9.nd rfl (Or.inl rfl) (pe_meth0 (pv 0) R.cl m_next_word.mt m_next_word.ok (hr.mono (by omega)) m_next_word.b .nil pass0))))))
      (pss_one (ps_ret (pe_callTy call_tuple_of (by rfl) T.tuple (by decide +kernel) (pa_cons (pv 3) pa_nil)))))))))), ?_⟩
      have ew : (Wo.rc x).W ++ ws = [123] :: (x.W ++ [125] :: ws) := by
        show [123] :: (x.W ++ [[125]]) ++ ws = _
        simp [List.append_assoc]
      rw [ew] at R0' hl
      have hl2 : (x.W ++ [125] :: ws).length ≤ 1000000 := by
        rw [List.length_cons] at hl
        omega
      have hh : x.h + 1 ≤ n := hh
      refine ⟨.ref r, rfl, r, dx, _, rfl, h1, rf_no _ _ (by decide +kernel) (by decide +kernel), r, L, _, _, rfl, R0', hl2, fun H1 o1 R1 => ?_⟩
      refine ⟨.str (S [123]), rfl, rfl, _, rfl, iteT ?_⟩
      have R1' := R1
      obtain ⟨dx1, t1, h11, h21⟩ := R1
      exact ⟨.ref r, rfl, r, dx1, _, rfl, h11, rf_no _ _ (by decide +kernel) (by decide +kernel), .int d, rfl, r, L, x, ws, d, rfl, R1', hl2, hx, by omega, by omega, fun H' a o2 R2 tv => q H' _ (o1.trans o2) R2 tv⟩
    | rw x =>
      have h0 : 0 < n := by
        have : x.h + 1 ≤ n := hh
        omega
      have m_read_record := m_rec h0
      have m_read_whole_record := m_whole h0
      refine ⟨_, (pss_cons (ps_set (i := 2) sr9.nd rfl (Or.inl rfl) (pe_meth0 (pv 0) R.cl m_next_word.mt m_next_word.ok (hr.mono (by omega)) m_next_word.b .nil pass0))
      (pss_cons (ps_if (pt_cmpR op_eq (pv 2) pe_str (nomark _))
        (pss_one (ps_ret (pe_meth (pv 0) R.cl m_read_record.mt m_read_record.ok (hr.mono (by omega)) m_read_record.b .nil pass0 (pa_cons (pv 1) pa_nil))))
        pss_nil)
      (pss_cons (ps_if (pt_cmpR op_ne (pv 2) pe_str (nomark _))
        (pss_one (ps_ret (pe_meth (pv 0) R.cl m_read_literal.mt m_read_literal.ok (hr.mono (by omega)) m_read_literal.b .nil pass0 (pa_cons (pv 2) pa_nil))))
        pss_nil)
      (pss_cons (ps_set (i := 3) sr9.nd rfl (Or.inl rfl) (pe_lst pa_nil))
      (pss_cons (ps_set (i := 2) sr9.nd rfl (Or.inl rfl) (pe_meth0 (pv 0) R.cl m_next_word.mt m_next_word.ok (hr.mono (by omega)) m_next_word.b .nil pass0))
      (pss_cons (ps_while PassesOwn.never (pt_cmpR op_ne (pv 2) pe_str (nomark _))
        (pss_cons (ps_set (i := 4) sr9.nd rfl (Or.inl rfl) (pe_meth (pv 0) R.cl m_read_serial.mt m_read_serial.ok (hr.mono (by omega)) m_read_serial.b .nil pass0 (pa_cons (pv 2) pa_nil)))
        (pss_cons (ps_expr (pe_bm PySem.F.plainAttrs_list PySem.F.slot_list_append PySem.F.type_list_append mt_append (pv 3) (pa_cons (pe_tup (pa_cons (pv 4) (pa_cons (pe_meth (pv 0) R.cl m_read_whole_record.mt m_read_whole_record.ok (hr.mono (by omega)) m_read_whole_record.b .nil pass0 (pa_cons (pv 1) pa_nil)) pa_nil))) pa_nil)))
        (pss_one (ps_set (i := 2) sr9.nd rfl (Or.inl rfl) (pe_meth0 (pv 0) R.cl m_next_word.mt m_next_word.ok (hr.mono (by omega)) m_next_word.b .nil pass0))))))
      (pss_one (ps_ret (pe_callTy call_tuple_of (by rfl) T.tuple (by decide +kernel) (pa_cons (pv 3) pa_nil)))))))))), ?_⟩
      have ew : (Wo.rw x).W ++ ws = [91] :: (x.W ++ [93] :: ws) := by
        show [91] :: (x.W ++ [[93]]) ++ ws = _
        simp [List.append_assoc]
      rw [ew] at R0' hl
      have hl2 : (x.W ++ [93] :: ws).length ≤ 1000000 := by
        rw [List.length_cons] at hl
        omega
      have hh : x.h + 1 ≤ n := hh
      have hx : x.rd := hx
      refine ⟨.ref r, rfl, r, dx, _, rfl, h1, rf_no _ _ (by decide +kernel) (by decide +kernel), r, L, _, _, rfl, R0', hl2, fun H1 o1 R1 => ?_⟩
      refine ⟨.str (S [91]), rfl, rfl, _, rfl, iteF ?_⟩
      refine ⟨.str (S [91]), rfl, rfl, _, rfl, iteF ?_⟩
      refine ⟨Nat.zero_le _, fun D nD => ?_⟩
      have hLs : H1 L ≠ none := fun e => by
        obtain ⟨_, _, _, h2⟩ := R1
        rw [e] at h2
        cases h2
      have DL : D ≠ L := fun e => hLs (e ▸ nD)
      have sD := same_new (o := .lst []) nD
      have RD := R1.same sD
      obtain ⟨c0, tl0, hc0⟩ : ∃ c tl, x.W ++ [93] :: ws = c :: tl := by
        cases e : x.W ++ [93] :: ws with
        | nil => simp at e
        | cons c tl => exact ⟨c, tl, rfl⟩
      rw [hc0] at RD
      have RD' := RD
      obtain ⟨dxd, td, h1d, h2d⟩ := RD
      have ltl : tl0.length ≤ 1000000 := by
        rw [hc0] at hl2
        have : tl0.length + 1 ≤ 1000000 := hl2
        omega
      refine ⟨.ref r, rfl, r, dxd, _, rfl, h1d, rf_no _ _ (by decide +kernel) (by decide +kernel), r, L, c0, tl0, rfl, RD', ltl, fun H1b o1b R1b => ?_⟩
      refine ⟨fun k σ H2 => ∃ (y : Rw) (vs : List V) (ds : List PyData) (c : List Nat) (tl : List (List Nat)) (z4 : Option V), σ = [some (.ref r), some (.int d), some (.str (S c)), some (.ref D), z4] ∧ Off L H1 H2 ∧ H2 D = some (.lst vs) ∧ TVs K H2 vs ds ∧ ds ++ y.ds = x.ds ∧ y.W ++ [93] :: ws = c :: tl ∧ RdAt C H2 r L tl ∧ y.rd ∧ y.h + 1 ≤ n ∧ tl.length + vs.length ≤ 1000000 ∧ k = tl.length,
        ⟨tl0.length, x, [], [], c0, tl0, _, rfl, (off_same sD).trans o1b, o1b D _ DL upd_same, .nil, rfl, hc0, R1b, hx, hh, ltl, rfl⟩, fun k σ H2 h => ?_⟩
      obtain ⟨y, vs, ds, c, tl, z4, rfl, oH, hD, tvs, eds, hc, R2, yr, yh, lk, rfl⟩ := h
      cases y with
      | nil =>
        have ec : c = [93] ∧ tl = ws := by
          have : [93] :: ws = c :: tl := hc
          exact ⟨(List.cons.inj this).1.symm, (List.cons.inj this).2.symm⟩
        obtain ⟨rfl, rfl⟩ := ec
        refine ⟨.str (S [93]), rfl, rfl, _, rfl, iteF ?_⟩
        refine ⟨.ref D, rfl, D, _, rfl, .inl ⟨SqL.of hD, fun a na => ?_⟩⟩
        have sa := same_new (o := .tup vs) na
        refine q _ (.ref a) (o1.trans (oH.trans (off_same sa))) (R2.same sa) (.tup (SqT.of upd_same) ?_)
        have : ds = x.ds := by
          have e := eds
          show ds = x.ds
          rw [← e]
          exact (List.append_nil ds).symm
        rw [← this]
        exact tvs.tk (tk_same sa)
      | cons ky rc y =>
        obtain ⟨yk, yw, yr⟩ := yr
        have hyh : rc.h + 1 ≤ n ∧ y.h + 1 ≤ n := by
          have : max rc.h y.h + 1 ≤ n := yh
          omega
        have ec : c = cs (sh ky) ∧ tl = [123] :: (rc.W ++ [125] :: (y.W ++ [93] :: ws)) := by
          have h2 : cs (sh ky) :: ([123] :: (rc.W ++ [[125]]) ++ y.W ++ [93] :: ws) = c :: tl := hc
          refine ⟨(List.cons.inj h2).1.symm, ?_⟩
          rw [← (List.cons.inj h2).2]
          simp [List.append_assoc]
        obtain ⟨rfl, rfl⟩ := ec
        have ne1 : ¬ V.str (S (cs (sh ky))) = V.str "]" := fun e => by
          injection e with e
          have e2 : cs (S (cs (sh ky))) = [93] := by rw [e]; rfl
          rw [cs_S, cs_sh] at e2
          exact absurd (List.cons.inj e2).1 (by decide)
        refine ⟨.str (S (cs (sh ky))), rfl, rfl, _, rfl, ?_⟩
        rw [decide_eq_false ne1]
        refine iteT ?_
        refine ⟨fun σ' H' => ∃ m', m' < ([123] :: (rc.W ++ [125] :: (y.W ++ [93] :: ws))).length ∧ (∃ (y : Rw) (vs : List V) (ds : List PyData) (c : List Nat) (tl : List (List Nat)) (z4 : Option V), σ' = [some (.ref r), some (.int d), some (.str (S c)), some (.ref D), z4] ∧ Off L H1 H' ∧ H' D = some (.lst vs) ∧ TVs K H' vs ds ∧ ds ++ y.ds = x.ds ∧ y.W ++ [93] :: ws = c :: tl ∧ RdAt C H' r L tl ∧ y.rd ∧ y.h + 1 ≤ n ∧ tl.length + vs.length ≤ 1000000 ∧ m' = tl.length), fun _ _ h => h, ?_⟩
        have R2' := R2
        obtain ⟨dx2, t2, h12, h22⟩ := R2
        refine ⟨.ref r, rfl, r, dx2, _, rfl, h12, rf_no _ _ (by decide +kernel) (by decide +kernel), .str (S (cs (sh ky))), rfl, r, ky, by rw [S_cs]; rfl, R2'.obj, yk, fun H3 s3 => ?_⟩
        have R3 := R2'.same s3
        have hD3 := s3 _ _ hD
        have R3' := R3
        obtain ⟨dx3, t3, h13, h23⟩ := R3
        have l5 : ([123] :: (rc.W ++ [125] :: (y.W ++ [93] :: ws))).length = rc.W.length + 1 + 1 + (y.W ++ [93] :: ws).length := by
          rw [List.length_cons, List.length_append, List.length_cons]
          omega
        refine ⟨.ref D, rfl, .inl ⟨rfl, _, SqL.of hD3⟩, .int ky, rfl, .ref r, rfl, r, dx3, _, rfl, h13, rf_no _ _ (by decide +kernel) (by decide +kernel), .int d, rfl, r, L, rc, y.W ++ [93] :: ws, d, rfl, R3', ?_, yw, by omega, by omega, fun H4 v o4 R4 tv => ⟨by show 2 ≤ sizeLine; decide, fun tp ntp => ?_⟩⟩
        · rw [List.length_cons] at lk
          omega
        have hD4 := o4 D _ DL hD3
        have tk24 : TK H2 H4 := (tk_same s3).trans (off_tk h23 o4)
        have Dtp : D ≠ tp := ne_of_none hD4 ntp
        have stp := same_new (o := .tup [.int ky, .ref v]) ntp
        have lvs : vs.length < sizeLine := Nat.lt_of_le_of_lt (by omega : vs.length ≤ 1000000) (by decide)
        refine ⟨D, _, _, rfl, rfl, stp _ _ hD4, lvs, ?_⟩
        have tk45 : TK H4 (upd (upd H4 tp (.tup [.int ky, .ref v])) D (.lst (vs ++ [.ref tp]))) := tk_lst (tk_new (TK.refl _) ntp) hD4
        have tvs5 : TVs K (upd (upd H4 tp (.tup [.int ky, .ref v])) D (.lst (vs ++ [.ref tp]))) (vs ++ [.ref tp]) (ds ++ [.tuple [.int ky, .tuple rc.ds]]) := by
          refine TVs.app (tvs.tk (tk24.trans tk45)) (.cons (.tup (SqT.of ?_) (.cons (.int ky) (.cons (tv.tk tk45) .nil))) .nil)
          rw [upd_ne Dtp.symm, upd_same]
        have oH5 : Off L H1 (upd (upd H4 tp (.tup [.int ky, .ref v])) D (.lst (vs ++ [.ref tp]))) := fun b o nb hb => by
          have b4 := o4 b o nb (s3 _ _ (oH b o nb hb))
          rw [upd_ne (ne_of_none hb nD), upd_ne (ne_of_none b4 ntp)]
          exact b4
        have R5 : RdAt C (upd (upd H4 tp (.tup [.int ky, .ref v])) D (.lst (vs ++ [.ref tp]))) r L (y.W ++ [93] :: ws) := by
          obtain ⟨dx4, t4, h14, h24⟩ := R4
          have rD : r ≠ D := ne_of h14 hD4 (by intro z; cases z)
          refine ⟨dx4, t4, ?_, ?_⟩
          · rw [upd_ne rD]
            exact stp _ _ h14
          · rw [upd_ne DL.symm]
            exact stp _ _ h24
        obtain ⟨c5, tl5, hc5⟩ : ∃ c tl, y.W ++ [93] :: ws = c :: tl := by
          cases e : y.W ++ [93] :: ws with
          | nil => simp at e
          | cons c tl => exact ⟨c, tl, rfl⟩
        rw [hc5] at R5 l5
        rw [List.length_cons (as := tl5)] at l5
        have R5' := R5
        obtain ⟨dx5, t5, h15, h25⟩ := R5
        have hc5' := hc5
        rw [← hc5] at l5
        refine ⟨.ref r, rfl, r, dx5, _, rfl, h15, rf_no _ _ (by decide +kernel) (by decide +kernel), r, L, c5, tl5, rfl, R5', by omega, fun H6 o6 R6 => ?_⟩
        refine ⟨tl5.length, by omega, y, vs ++ [.ref tp], ds ++ [.tuple [.int ky, .tuple rc.ds]], c5, tl5, _, rfl, oH5.trans o6, o6 D _ DL upd_same, tvs5.tk (off_tk h25 o6), ?_, hc5, R6, yr, hyh.2, ?_, rfl⟩
        · rw [← eds, List.append_assoc]
          rfl
        · rw [List.length_append]
          show tl5.length + (vs.length + 1) ≤ 1000000
          omega
/-- all, however deep -/
theorem ok_recs {f1 f2 f3 : Addr} {fd1 fd2 fd3 : FuncData} (F1 : Fun K "read_worth" "Reading.read_worth" rWorth f1 fd1) (F2 : Fun K "read_whole_record" "Reading.read_whole_record" rWhole f2 fd2) (F3 : Fun K "read_record" "Reading.read_record" rRec f3 fd3) (T : Bl K mg) (R : Rg K mg C)
    (g1 : Meth K C "read_worth" f1) (g2 : Meth K C "read_whole_record" f2) (g3 : Meth K C "read_record" f3) (b1 : Binds K fd1 ["self", "deep"] []) (b2 : Binds K fd2 ["self", "deep"] []) (b3 : Binds K fd3 ["self", "deep"] [])
    (m_next_word : DnM P w K mg base C "next_word" 1 ["self"] (spNext C)) (m_read_serial : DnM P w K mg base C "read_serial" 2 ["self", "word"] (spSer C)) (m_read_literal : DnM P w K mg base C "read_literal" 2 ["self", "word"] (spLit C)) (d_is_name : DnO P w K mg base "is_name" 2 ["value"] spNm) :
    ∀ n, FnOk P w K mg base CX0 (4 + 3 * n) f3 fd3 ["self", "deep"] (spRecR K C n)
  | 0 => ok_rec F3 T R m_next_word ⟨f1, fd1, ok_worth F1 T R m_next_word m_read_serial m_read_literal (fun z => absurd z (by decide)) (fun z => absurd z (by decide)), g1, b1⟩ d_is_name
  | n + 1 => by
    have ih := ok_recs F1 F2 F3 T R g1 g2 g3 b1 b2 b3 m_next_word m_read_serial m_read_literal d_is_name n
    have dr : DnM P w K mg base C "read_record" (4 + 3 * n) ["self", "deep"] (spRecR K C n) := ⟨f3, fd3, ih, g3, b3⟩
    have e : 1 + 3 * (n + 1) = 4 + 3 * n := by omega
    have e2 : 2 + 3 * (n + 1) = 5 + 3 * n := by omega
    refine ok_rec F3 T R m_next_word ⟨f1, fd1, ok_worth F1 T R m_next_word m_read_serial m_read_literal (fun _ => ?_) (fun _ => ?_), g1, b1⟩ d_is_name
    · rw [e]
      exact dr
    · rw [e2]
      exact ⟨f2, fd2, ok_whole F2 T R m_next_word dr, g2, b2⟩
end
end M91

set_option Elab.async false
set_option linter.all false
set_option maxRecDepth 100000
set_option maxHeartbeats 4000000
/-! read_step, read_deed, all_read -/
namespace M91
open PySem PySem.Spec PyProof.Rows L2 GL TL
theorem sr12 : FnScope ["self", "word", "place", "found", "index", "serial", "other"] ["self"] (defScope rStep) := ⟨rfl, rfl, rfl, by decide +kernel, rfl, by decide +kernel, by decide +kernel⟩
theorem sr13 : FnScope ["self", "word", "spot", "parts", "some", "one"] ["self"] (defScope rDeed) := ⟨rfl, rfl, rfl, by decide +kernel, rfl, by decide +kernel, by decide +kernel⟩
theorem sr14 : FnScope ["self", "found"] ["self", "found"] (defScope rAll) := ⟨rfl, rfl, rfl, by decide +kernel, rfl, by decide +kernel, by decide +kernel⟩
section
variable {C : Addr} {H : Hp} {r L : Addr} {ws : List (List Nat)}
noncomputable def RdAt.dx (h : RdAt C H r L ws) : Addr := h.choose
noncomputable def RdAt.tx (h : RdAt C H r L ws) : Str := h.choose_spec.choose
theorem RdAt.i (h : RdAt C H r L ws) : H r = some (.ins C h.dx (rf h.tx L)) := h.choose_spec.choose_spec.1
theorem RdAt.l (h : RdAt C H r L ws) : H L = some (.lst ((ws.map S).map V.str)) := h.choose_spec.choose_spec.2
end
/-- the words of a step -/
def Stp.W : Stp → List (List Nat)
  | .set p l => [[115, 101, 116], cs (placeT p), cs l.t]
  | .take p k => [[116, 97, 107, 101], cs (placeT p), cs (sh k)]
  | .put p i k r => [112, 117, 116] :: cs (placeT p) :: cs (nT (i : Int)) :: cs (sh k) :: [123] :: (r.W ++ [[125]])
  | .carry p k q i => [[99, 97, 114, 114, 121], cs (placeT p), cs (sh k), cs (placeT q), cs (nT (i : Int))]
def Stp.rd : Stp → Prop
  | .set p l => Place.rd p ∧ l.rd
  | .take p k => Place.rd p ∧ k < 2 ^ 60
  | .put p i k r => Place.rd p ∧ i < 2 ^ 60 ∧ k < 2 ^ 60 ∧ r.rd ∧ r.h ≤ 39
  | .carry p k q i => Place.rd p ∧ k < 2 ^ 60 ∧ Place.rd q ∧ i < 2 ^ 60
def Dd.W : Dd → List (List Nat)
  | .set s l => [[115, 101, 116], cs s.t, cs l.t]
  | .gone s => [[103, 111, 110, 101], cs s.t]
  | .order f n ks => [111, 114, 100, 101, 114] :: cs (f ++ "/" ++ n) :: (if ks.isEmpty then [[45]] else ks.map fun k => cs (sh k))
def Dd.rd : Dd → Prop
  | .set s l => s.rd ∧ l.rd
  | .gone s => s.rd
  | .order f n ks => isName f = true ∧ isName n = true ∧ ks.length ≤ 1000 ∧ ∀ k ∈ ks, k < 2 ^ 60
theorem Lit.tv {K : PySem.W.Frag} {H : Hp} (l : Lit) : TV K H l.v l.d := by
  cases l with
  | s x => exact .str x
  | i n => exact .int n
section
variable {P : Program} {w : World} {K : PySem.W.Frag} {mg : Str → Option Value} {base : Heap} {C : Addr}
def spAll (C : Addr) : Sp := fun vs H Q _ => ∃ (r L : Addr) (v : V), vs = [.ref r, v] ∧ RdAt C H r L [] ∧ ∀ H', Same H H' → Q v H'
theorem ok_all {f : Addr} {fd : FuncData} (F : Fun K "all_read" "Reading.all_read" rAll f fd) (R : Rg K mg C) : FnOk P w K mg base CX0 1 f fd ["self", "found"] (spAll C) := by
  refine F.ok sr14 (fun vs H Q E h => ?_) (fun cdv A outer s H vs Q E hr h => ?_)
  · obtain ⟨r, L, v, rfl, _⟩ := h
    rfl
  · obtain ⟨r, L, v, rfl, R0, q⟩ := h
    refine ⟨_, (pss_cons (ps_if (pt_cmpR (op_neS hr.units0) (pe_fld (pv 0) rfl) (pe_lst pa_nil) (nomark _))
        (pss_one ps_never)
        pss_nil)
      (pss_one (ps_ret (pv 1)))), ?_⟩
    refine ⟨.ref r, rfl, r, C, R0.dx, _, _, rfl, R0.i, R.cl, R.nL, rf_words _ _, by show 0 ≤ sizeLine; decide, fun E0 nE => ?_⟩
    have sE := same_new (o := .lst []) nE
    refine ⟨L, E0, [], [], rfl, rfl, SqL.of (sE _ _ R0.l), SqL.of upd_same, _, rfl, iteF ?_⟩
    exact ⟨v, rfl, q _ sE⟩
def spStepR (K : PySem.W.Frag) (C : Addr) : Sp := fun vs H Q _ => ∃ (r L : Addr) (x : Stp), vs = [.ref r] ∧ RdAt C H r L x.W ∧ x.W.length ≤ 1000000 ∧ x.rd ∧ ∀ H' a, Off L H H' → TV K H' (.ref a) x.d → Q (.ref a) H'
theorem ok_stepR {f : Addr} {fd : FuncData} (F : Fun K "read_step" "Reading.read_step" rStep f fd) (T : Bl K mg) (R : Rg K mg C) (m_next_word : DnM P w K mg base C "next_word" 1 ["self"] (spNext C)) (m_read_number : DnM P w K mg base C "read_number" 1 ["self", "word"] spNum) (m_read_serial : DnM P w K mg base C "read_serial" 2 ["self", "word"] (spSer C)) (m_read_literal : DnM P w K mg base C "read_literal" 2 ["self", "word"] (spLit C))
    (m_read_place : DnM P w K mg base C "read_place" 4 ["self", "word"] (spPlace K C)) (m_read_whole_record : DnM P w K mg base C "read_whole_record" 122 ["self", "deep"] (spWholeR K C 39)) (m_all_read : DnM P w K mg base C "all_read" 1 ["self", "found"] (spAll C)) : FnOk P w K mg base CX0 123 f fd ["self"] (spStepR K C) := by
  refine F.ok sr12 (fun vs H Q E h => ?_) (fun cdv A outer s H vs Q E hr h => ?_)
  · obtain ⟨r, L, x, rfl, _⟩ := h
    rfl
  · obtain ⟨r, L, x, rfl, R0, hl, hx, q⟩ := h
    refine ⟨_, (pss_cons (ps_set (i := 1) sr12.nd rfl (Or.inl rfl) (pe_meth0 (pv 0) R.cl m_next_word.mt m_next_word.ok (hr.mono (by omega)) m_next_word.b .nil pass0))
      (pss_cons (ps_if (pt_cmpR (r := rIn K true) op_notIn_seq (pv 1) (pe_tup (pa_cons (pe_glob (v := .str "set") (by rfl) T.cset.choose_spec ⟨_, rfl⟩) (pa_cons (pe_glob (v := .str "take") (by rfl) T.ctake.choose_spec ⟨_, rfl⟩) (pa_cons (pe_glob (v := .str "put") (by rfl) T.cput.choose_spec ⟨_, rfl⟩) (pa_cons (pe_glob (v := .str "carry") (by rfl) T.ccarry.choose_spec ⟨_, rfl⟩) pa_nil))))) (by rfl))
        (pss_one ps_never)
        pss_nil)
      (pss_cons (ps_set (i := 2) sr12.nd rfl (Or.inl rfl) (pe_meth (pv 0) R.cl m_read_place.mt m_read_place.ok (hr.mono (by omega)) m_read_place.b .nil pass0 (pa_cons (pe_meth0 (pv 0) R.cl m_next_word.mt m_next_word.ok (hr.mono (by omega)) m_next_word.b .nil pass0) pa_nil)))
      (pss_cons (ps_if (pt_cmpR op_eq (pv 1) (pe_glob (v := .str "set") (by rfl) T.cset.choose_spec ⟨_, rfl⟩) (nomark _))
        (pss_one (ps_set (i := 3) sr12.nd rfl (Or.inl rfl) (pe_tup (pa_cons (pv 1) (pa_cons (pv 2) (pa_cons (pe_meth (pv 0) R.cl m_read_literal.mt m_read_literal.ok (hr.mono (by omega)) m_read_literal.b .nil pass0 (pa_cons (pe_meth0 (pv 0) R.cl m_next_word.mt m_next_word.ok (hr.mono (by omega)) m_next_word.b .nil pass0) pa_nil)) pa_nil))))))
        (pss_one (ps_if (pt_cmpR op_eq (pv 1) (pe_glob (v := .str "take") (by rfl) T.ctake.choose_spec ⟨_, rfl⟩) (nomark _))
          (pss_one (ps_set (i := 3) sr12.nd rfl (Or.inl rfl) (pe_tup (pa_cons (pv 1) (pa_cons (pv 2) (pa_cons (pe_meth (pv 0) R.cl m_read_serial.mt m_read_serial.ok (hr.mono (by omega)) m_read_serial.b .nil pass0 (pa_cons (pe_meth0 (pv 0) R.cl m_next_word.mt m_next_word.ok (hr.mono (by omega)) m_next_word.b .nil pass0) pa_nil)) pa_nil))))))
          (pss_one (ps_if (pt_cmpR op_eq (pv 1) (pe_glob (v := .str "put") (by rfl) T.cput.choose_spec ⟨_, rfl⟩) (nomark _))
            (pss_cons (ps_set (i := 4) sr12.nd rfl (Or.inl rfl) (pe_meth (pv 0) R.cl m_read_number.mt m_read_number.ok (hr.mono (by omega)) m_read_number.b .nil pass0 (pa_cons (pe_meth0 (pv 0) R.cl m_next_word.mt m_next_word.ok (hr.mono (by omega)) m_next_word.b .nil pass0) pa_nil)))
            (pss_cons (ps_set (i := 5) sr12.nd rfl (Or.inl rfl) (pe_meth (pv 0) R.cl m_read_serial.mt m_read_serial.ok (hr.mono (by omega)) m_read_serial.b .nil pass0 (pa_cons (pe_meth0 (pv 0) R.cl m_next_word.mt m_next_word.ok (hr.mono (by omega)) m_next_word.b .nil pass0) pa_nil)))
            (pss_one (ps_set (i := 3) sr12.nd rfl (Or.inl rfl) (pe_tup (pa_cons (pv 1) (pa_cons (pv 2) (pa_cons (pv 4) (pa_cons (pv 5) (pa_cons (pe_meth (pv 0) R.cl m_read_whole_record.mt m_read_whole_record.ok (hr.mono (by omega)) m_read_whole_record.b .nil pass0 (pa_cons pe_int pa_nil)) pa_nil))))))))))
            (pss_cons (ps_set (i := 5) sr12.nd rfl (Or.inl rfl) (pe_meth (pv 0) R.cl m_read_serial.mt m_read_serial.ok (hr.mono (by omega)) m_read_serial.b .nil pass0 (pa_cons (pe_meth0 (pv 0) R.cl m_next_word.mt m_next_word.ok (hr.mono (by omega)) m_next_word.b .nil pass0) pa_nil)))
            (pss_cons (ps_set (i := 6) sr12.nd rfl (Or.inl rfl) (pe_meth (pv 0) R.cl m_read_place.mt m_read_place.ok (hr.mono (by omega)) m_read_place.b .nil pass0 (pa_cons (pe_meth0 (pv 0) R.cl m_next_word.mt m_next_word.ok (hr.mono (by omega)) m_next_word.b .nil pass0) pa_nil)))
            (pss_one (ps_set (i := 3) sr12.nd rfl (Or.inl rfl) (pe_tup (pa_cons (pv 1) (pa_cons (pv 2) (pa_cons (pv 5) (pa_cons (pv 6) (pa_cons (pe_meth (pv 0) R.cl m_read_number.mt m_read_number.ok (hr.mono (by omega)) m_read_number.b .nil pass0 (pa_cons (pe_meth0 (pv 0) R.cl m_next_word.mt m_next_word.ok (hr.mono (by omega)) m_next_word.b .nil pass0) pa_nil)) pa_nil)))))))))))))))
      (pss_one (ps_ret (pe_meth (pv 0) R.cl m_all_read.mt m_all_read.ok (hr.mono (by omega)) m_all_read.b .nil pass0 (pa_cons (pv 3) pa_nil)))))))), ?_⟩
    cases x with
    | set p l =>
      obtain ⟨hp, hlr⟩ := hx
      refine ⟨.ref r, rfl, r, R0.dx, _, rfl, R0.i, rf_no _ _ (by decide +kernel) (by decide +kernel), r, L, _, _, rfl, R0, by simp, fun H1 o1 R1 => ?_⟩
      refine ⟨.str (S [115, 101, 116]), rfl, by show 4 ≤ sizeLine; decide, fun tp ntp => ?_⟩
      have st := same_new (o := .tup [.str "set", .str "take", .str "put", .str "carry"]) ntp
      refine ⟨tp, _, rfl, .inr (SqT.of upd_same), rfl, rfl, _, rfl, iteF ?_⟩
      have R2 := R1.same st
      refine ⟨.ref r, rfl, r, R2.dx, _, rfl, R2.i, rf_no _ _ (by decide +kernel) (by decide +kernel), .ref r, rfl, r, R2.dx, _, rfl, R2.i, rf_no _ _ (by decide +kernel) (by decide +kernel), r, L, _, _, rfl, R2, by simp, fun H3 o3 R3 => ⟨r, p, by rw [S_cs]; rfl, R3.obj, hp, fun H4 a4 s4 tv4 => ?_⟩⟩
      have R4 := R3.same s4
      have o04 : Off L H H4 := (o1.trans (off_same st)).trans (o3.trans (off_same s4))
      refine ⟨.str (S [115, 101, 116]), rfl, rfl, _, rfl, iteT ?_⟩
      refine ⟨.str (S [115, 101, 116]), rfl, .ref a4, rfl, .ref r, rfl, r, R4.dx, _, rfl, R4.i, rf_no _ _ (by decide +kernel) (by decide +kernel), .ref r, rfl, r, R4.dx, _, rfl, R4.i, rf_no _ _ (by decide +kernel) (by decide +kernel), r, L, _, _, rfl, R4, by simp, fun H5 o5 R5 => ⟨r, l, by rw [S_cs]; rfl, R5.obj, hlr, fun H6 s6 => ⟨by show 3 ≤ sizeLine; decide, fun tz nz => ?_⟩⟩⟩
      have R6 := R5.same s6
      have tk46 : TK H4 H6 := (off_tk R4.l o5).trans (tk_same s6)
      have sz := same_new (o := .tup [.str (S [115, 101, 116]), .ref a4, l.v]) nz
      have Rz := R6.same sz
      refine ⟨.ref r, rfl, r, Rz.dx, _, rfl, Rz.i, rf_no _ _ (by decide +kernel) (by decide +kernel), .ref tz, rfl, r, L, .ref tz, rfl, Rz, fun H' s' => ?_⟩
      refine q H' tz ((o04.trans (o5.trans (off_same s6))).trans (off_same (sz.trans s'))) ?_
      have T0 : TV K (upd _ tz (.tup [.str (S [115, 101, 116]), .ref a4, l.v])) (.ref tz) (.tuple _) := .tup (SqT.of upd_same) (.cons (.str "set") (.cons (tv4.tk (tk46.trans (tk_same sz))) (.cons l.tv .nil)))
      exact T0.tk (tk_same s')
    | take p k =>
      obtain ⟨hp, hlr⟩ := hx
      refine ⟨.ref r, rfl, r, R0.dx, _, rfl, R0.i, rf_no _ _ (by decide +kernel) (by decide +kernel), r, L, _, _, rfl, R0, by simp, fun H1 o1 R1 => ?_⟩
      refine ⟨.str (S [116, 97, 107, 101]), rfl, by show 4 ≤ sizeLine; decide, fun tp ntp => ?_⟩
      have st := same_new (o := .tup [.str "set", .str "take", .str "put", .str "carry"]) ntp
      refine ⟨tp, _, rfl, .inr (SqT.of upd_same), rfl, rfl, _, rfl, iteF ?_⟩
      have R2 := R1.same st
      refine ⟨.ref r, rfl, r, R2.dx, _, rfl, R2.i, rf_no _ _ (by decide +kernel) (by decide +kernel), .ref r, rfl, r, R2.dx, _, rfl, R2.i, rf_no _ _ (by decide +kernel) (by decide +kernel), r, L, _, _, rfl, R2, by simp, fun H3 o3 R3 => ⟨r, p, by rw [S_cs]; rfl, R3.obj, hp, fun H4 a4 s4 tv4 => ?_⟩⟩
      have R4 := R3.same s4
      have o04 : Off L H H4 := (o1.trans (off_same st)).trans (o3.trans (off_same s4))
      refine ⟨.str (S [116, 97, 107, 101]), rfl, rfl, _, rfl, iteF ?_⟩
      refine ⟨.str (S [116, 97, 107, 101]), rfl, rfl, _, rfl, iteT ?_⟩
      refine ⟨.str (S [116, 97, 107, 101]), rfl, .ref a4, rfl, .ref r, rfl, r, R4.dx, _, rfl, R4.i, rf_no _ _ (by decide +kernel) (by decide +kernel), .ref r, rfl, r, R4.dx, _, rfl, R4.i, rf_no _ _ (by decide +kernel) (by decide +kernel), r, L, _, _, rfl, R4, by simp, fun H5 o5 R5 => ⟨r, k, by rw [S_cs]; rfl, R5.obj, hlr, fun H6 s6 => ⟨by show 3 ≤ sizeLine; decide, fun tz nz => ?_⟩⟩⟩
      have R6 := R5.same s6
      have tk46 : TK H4 H6 := (off_tk R4.l o5).trans (tk_same s6)
      have sz := same_new (o := .tup [.str (S [116, 97, 107, 101]), .ref a4, .int k]) nz
      have Rz := R6.same sz
      refine ⟨.ref r, rfl, r, Rz.dx, _, rfl, Rz.i, rf_no _ _ (by decide +kernel) (by decide +kernel), .ref tz, rfl, r, L, .ref tz, rfl, Rz, fun H' s' => ?_⟩
      refine q H' tz ((o04.trans (o5.trans (off_same s6))).trans (off_same (sz.trans s'))) ?_
      have T0 : TV K (upd _ tz (.tup [.str (S [116, 97, 107, 101]), .ref a4, .int k])) (.ref tz) (.tuple _) := .tup (SqT.of upd_same) (.cons (.str "take") (.cons (tv4.tk (tk46.trans (tk_same sz))) (.cons (.int k) .nil)))
      exact T0.tk (tk_same s')
    | put p i k rc =>
      obtain ⟨hp, hi, hk, hrr, hrh⟩ := hx
      have hl2 : (rc.W ++ [[125]]).length + 5 ≤ 1000000 := hl
      refine ⟨.ref r, rfl, r, R0.dx, _, rfl, R0.i, rf_no _ _ (by decide +kernel) (by decide +kernel), r, L, _, _, rfl, R0, by simp only [List.length_cons]; omega, fun H1 o1 R1 => ?_⟩
      refine ⟨.str (S [112, 117, 116]), rfl, by show 4 ≤ sizeLine; decide, fun tp ntp => ?_⟩
      have st := same_new (o := .tup [.str "set", .str "take", .str "put", .str "carry"]) ntp
      refine ⟨tp, _, rfl, .inr (SqT.of upd_same), rfl, rfl, _, rfl, iteF ?_⟩
      have R2 := R1.same st
      refine ⟨.ref r, rfl, r, R2.dx, _, rfl, R2.i, rf_no _ _ (by decide +kernel) (by decide +kernel), .ref r, rfl, r, R2.dx, _, rfl, R2.i, rf_no _ _ (by decide +kernel) (by decide +kernel), r, L, _, _, rfl, R2, by simp only [List.length_cons]; omega, fun H3 o3 R3 => ⟨r, p, by rw [S_cs]; rfl, R3.obj, hp, fun H4 a4 s4 tv4 => ?_⟩⟩
      have R4 := R3.same s4
      have o04 : Off L H H4 := (o1.trans (off_same st)).trans (o3.trans (off_same s4))
      refine ⟨.str (S [112, 117, 116]), rfl, rfl, _, rfl, iteF ?_⟩
      refine ⟨.str (S [112, 117, 116]), rfl, rfl, _, rfl, iteF ?_⟩
      refine ⟨.str (S [112, 117, 116]), rfl, rfl, _, rfl, iteT ?_⟩
      refine ⟨.ref r, rfl, r, R4.dx, _, rfl, R4.i, rf_no _ _ (by decide +kernel) (by decide +kernel), .ref r, rfl, r, R4.dx, _, rfl, R4.i, rf_no _ _ (by decide +kernel) (by decide +kernel), r, L, _, _, rfl, R4, by simp only [List.length_cons]; omega, fun H5 o5 R5 => ⟨.ref r, i, by rw [S_cs]; rfl, hi, fun H6 s6 => ?_⟩⟩
      have R6 := R5.same s6
      refine ⟨.ref r, rfl, r, R6.dx, _, rfl, R6.i, rf_no _ _ (by decide +kernel) (by decide +kernel), .ref r, rfl, r, R6.dx, _, rfl, R6.i, rf_no _ _ (by decide +kernel) (by decide +kernel), r, L, _, _, rfl, R6, by simp only [List.length_cons]; omega, fun H7 o7 R7 => ⟨r, k, by rw [S_cs]; rfl, R7.obj, hk, fun H8 s8 => ?_⟩⟩
      have R8 := R7.same s8
      have o48 : Off L H4 H8 := (o5.trans (off_same s6)).trans (o7.trans (off_same s8))
      refine ⟨.str (S [112, 117, 116]), rfl, .ref a4, rfl, .int i, rfl, .int k, rfl, .ref r, rfl, r, R8.dx, _, rfl, R8.i, rf_no _ _ (by decide +kernel) (by decide +kernel), r, L, rc, [], 1, rfl, R8, by omega, hrr, hrh, by decide, fun H9 a9 o9 R9 tv9 => ⟨by show 5 ≤ sizeLine; decide, fun tz nz => ?_⟩⟩
      have tk49 : TK H4 H9 := (off_tk R4.l o48).trans (off_tk R8.l o9)
      have sz := same_new (o := .tup [.str (S [112, 117, 116]), .ref a4, .int i, .int k, .ref a9]) nz
      have Rz := R9.same sz
      refine ⟨.ref r, rfl, r, Rz.dx, _, rfl, Rz.i, rf_no _ _ (by decide +kernel) (by decide +kernel), .ref tz, rfl, r, L, .ref tz, rfl, Rz, fun H' s' => ?_⟩
      refine q H' tz ((o04.trans (o48.trans o9)).trans (off_same (sz.trans s'))) ?_
      have T0 : TV K (upd _ tz (.tup [.str (S [112, 117, 116]), .ref a4, .int i, .int k, .ref a9])) (.ref tz) (.tuple _) := .tup (SqT.of upd_same) (.cons (.str "put") (.cons (tv4.tk (tk49.trans (tk_same sz))) (.cons (.int i) (.cons (.int k) (.cons (tv9.tk (tk_same sz)) .nil)))))
      exact T0.tk (tk_same s')
    | carry p k z i =>
      obtain ⟨hp, hk, hz, hi⟩ := hx
      refine ⟨.ref r, rfl, r, R0.dx, _, rfl, R0.i, rf_no _ _ (by decide +kernel) (by decide +kernel), r, L, _, _, rfl, R0, by simp, fun H1 o1 R1 => ?_⟩
      refine ⟨.str (S [99, 97, 114, 114, 121]), rfl, by show 4 ≤ sizeLine; decide, fun tp ntp => ?_⟩
      have st := same_new (o := .tup [.str "set", .str "take", .str "put", .str "carry"]) ntp
      refine ⟨tp, _, rfl, .inr (SqT.of upd_same), rfl, rfl, _, rfl, iteF ?_⟩
      have R2 := R1.same st
      refine ⟨.ref r, rfl, r, R2.dx, _, rfl, R2.i, rf_no _ _ (by decide +kernel) (by decide +kernel), .ref r, rfl, r, R2.dx, _, rfl, R2.i, rf_no _ _ (by decide +kernel) (by decide +kernel), r, L, _, _, rfl, R2, by simp, fun H3 o3 R3 => ⟨r, p, by rw [S_cs]; rfl, R3.obj, hp, fun H4 a4 s4 tv4 => ?_⟩⟩
      have R4 := R3.same s4
      have o04 : Off L H H4 := (o1.trans (off_same st)).trans (o3.trans (off_same s4))
      refine ⟨.str (S [99, 97, 114, 114, 121]), rfl, rfl, _, rfl, iteF ?_⟩
      refine ⟨.str (S [99, 97, 114, 114, 121]), rfl, rfl, _, rfl, iteF ?_⟩
      refine ⟨.str (S [99, 97, 114, 114, 121]), rfl, rfl, _, rfl, iteF ?_⟩
      refine ⟨.ref r, rfl, r, R4.dx, _, rfl, R4.i, rf_no _ _ (by decide +kernel) (by decide +kernel), .ref r, rfl, r, R4.dx, _, rfl, R4.i, rf_no _ _ (by decide +kernel) (by decide +kernel), r, L, _, _, rfl, R4, by simp, fun H5 o5 R5 => ⟨r, k, by rw [S_cs]; rfl, R5.obj, hk, fun H6 s6 => ?_⟩⟩
      have R6 := R5.same s6
      refine ⟨.ref r, rfl, r, R6.dx, _, rfl, R6.i, rf_no _ _ (by decide +kernel) (by decide +kernel), .ref r, rfl, r, R6.dx, _, rfl, R6.i, rf_no _ _ (by decide +kernel) (by decide +kernel), r, L, _, _, rfl, R6, by simp, fun H7 o7 R7 => ⟨r, z, by rw [S_cs]; rfl, R7.obj, hz, fun H8 a8 s8 tv8 => ?_⟩⟩
      have R8 := R7.same s8
      have o48 : Off L H4 H8 := (o5.trans (off_same s6)).trans (o7.trans (off_same s8))
      refine ⟨.str (S [99, 97, 114, 114, 121]), rfl, .ref a4, rfl, .int k, rfl, .ref a8, rfl, .ref r, rfl, r, R8.dx, _, rfl, R8.i, rf_no _ _ (by decide +kernel) (by decide +kernel), .ref r, rfl, r, R8.dx, _, rfl, R8.i, rf_no _ _ (by decide +kernel) (by decide +kernel), r, L, _, _, rfl, R8, by simp, fun H9 o9 R9 => ⟨.ref r, i, by rw [S_cs]; rfl, hi, fun H10 s10 => ⟨by show 5 ≤ sizeLine; decide, fun tz nz => ?_⟩⟩⟩
      have R10 := R9.same s10
      have tk8 : TK H8 H10 := (off_tk R8.l o9).trans (tk_same s10)
      have tk4 : TK H4 H10 := (off_tk R4.l o48).trans tk8
      have sz := same_new (o := .tup [.str (S [99, 97, 114, 114, 121]), .ref a4, .int k, .ref a8, .int i]) nz
      have Rz := R10.same sz
      refine ⟨.ref r, rfl, r, Rz.dx, _, rfl, Rz.i, rf_no _ _ (by decide +kernel) (by decide +kernel), .ref tz, rfl, r, L, .ref tz, rfl, Rz, fun H' s' => ?_⟩
      refine q H' tz ((o04.trans (o48.trans (o9.trans (off_same s10)))).trans (off_same (sz.trans s'))) ?_
      have T0 : TV K (upd _ tz (.tup [.str (S [99, 97, 114, 114, 121]), .ref a4, .int k, .ref a8, .int i])) (.ref tz) (.tuple _) := .tup (SqT.of upd_same) (.cons (.str "carry") (.cons (tv4.tk (tk4.trans (tk_same sz))) (.cons (.int k) (.cons (tv8.tk (tk8.trans (tk_same sz))) (.cons (.int i) .nil)))))
      exact T0.tk (tk_same s')
def spDeedR (K : PySem.W.Frag) (C : Addr) : Sp := fun vs H Q _ => ∃ (r L : Addr) (x : Dd), vs = [.ref r] ∧ RdAt C H r L x.W ∧ x.rd ∧ ∀ H' a, Off L H H' → TV K H' (.ref a) x.d → Q (.ref a) H'
theorem ok_deedR {f : Addr} {fd : FuncData} (F : Fun K "read_deed" "Reading.read_deed" rDeed f fd) (T : Bl K mg) (R : Rg K mg C) (m_next_word : DnM P w K mg base C "next_word" 1 ["self"] (spNext C)) (m_read_serial : DnM P w K mg base C "read_serial" 2 ["self", "word"] (spSer C)) (m_read_literal : DnM P w K mg base C "read_literal" 2 ["self", "word"] (spLit C))
    (m_read_spot : DnM P w K mg base C "read_spot" 4 ["self", "word"] (spSpot K C)) (m_all_read : DnM P w K mg base C "all_read" 1 ["self", "found"] (spAll C)) (d_is_name : DnO P w K mg base "is_name" 2 ["value"] spNm) : FnOk P w K mg base CX0 5 f fd ["self"] (spDeedR K C) := by
  refine F.ok sr13 (fun vs H Q E h => ?_) (fun cdv A outer s H vs Q E hr h => ?_)
  · obtain ⟨r, L, x, rfl, _⟩ := h
    rfl
  · obtain ⟨r, L, x, rfl, R0, hx, q⟩ := h
    refine ⟨_, (pss_cons (ps_set (i := 1) sr13.nd rfl (Or.inl rfl) (pe_meth0 (pv 0) R.cl m_next_word.mt m_next_word.ok (hr.mono (by omega)) m_next_word.b .nil pass0))
      (pss_cons (ps_if (pt_cmpR op_eq (pv 1) (pe_glob (v := .str "set") (by rfl) T.cset.choose_spec ⟨_, rfl⟩) (nomark _))
        (pss_cons (ps_set (i := 2) sr13.nd rfl (Or.inl rfl) (pe_meth (pv 0) R.cl m_read_spot.mt m_read_spot.ok (hr.mono (by omega)) m_read_spot.b .nil pass0 (pa_cons (pe_meth0 (pv 0) R.cl m_next_word.mt m_next_word.ok (hr.mono (by omega)) m_next_word.b .nil pass0) pa_nil)))
        (pss_one (ps_ret (pe_meth (pv 0) R.cl m_all_read.mt m_all_read.ok (hr.mono (by omega)) m_all_read.b .nil pass0 (pa_cons (pe_tup (pa_cons (pv 1) (pa_cons (pv 2) (pa_cons (pe_meth (pv 0) R.cl m_read_literal.mt m_read_literal.ok (hr.mono (by omega)) m_read_literal.b .nil pass0 (pa_cons (pe_meth0 (pv 0) R.cl m_next_word.mt m_next_word.ok (hr.mono (by omega)) m_next_word.b .nil pass0) pa_nil)) pa_nil)))) pa_nil)))))
        pss_nil)
      (pss_cons (ps_if (pt_cmpR op_eq (pv 1) (pe_glob (v := .str "gone") (by rfl) T.cgone.choose_spec ⟨_, rfl⟩) (nomark _))
        (pss_one (ps_ret (pe_meth (pv 0) R.cl m_all_read.mt m_all_read.ok (hr.mono (by omega)) m_all_read.b .nil pass0 (pa_cons (pe_tup (pa_cons (pv 1) (pa_cons (pe_meth (pv 0) R.cl m_read_spot.mt m_read_spot.ok (hr.mono (by omega)) m_read_spot.b .nil pass0 (pa_cons (pe_meth0 (pv 0) R.cl m_next_word.mt m_next_word.ok (hr.mono (by omega)) m_next_word.b .nil pass0) pa_nil)) pa_nil))) pa_nil))))
        pss_nil)
      (pss_cons (ps_if (pt_cmpR op_ne (pv 1) (pe_glob (v := .str "order") (by rfl) T.corder.choose_spec ⟨_, rfl⟩) (nomark _))
        (pss_one ps_never)
        pss_nil)
      (pss_cons (ps_set (i := 3) sr13.nd rfl (Or.inl rfl) (pe_split (pe_meth0 (pv 0) R.cl m_next_word.mt m_next_word.ok (hr.mono (by omega)) m_next_word.b .nil pass0) (pe_glob (v := .str "/") (by rfl) T.cslash.choose_spec ⟨_, rfl⟩)))
      (pss_cons (ps_if (PW.pt (pw_or (pt_cmpR op_ne (pe_callB call_len_seq (by rfl) T.len (by decide +kernel) (pa_cons (pv 3) pa_nil)) (pe_glob (v := .int 2) (by rfl) T.cplaceparts.choose_spec ⟨_, rfl⟩) (nomark _)) (pw_or (pt_not (pt_val (pe_call d_is_name.ok (hr.mono (by omega)) (by rfl) d_is_name.g d_is_name.kp d_is_name.b .nil pass0 (pa_cons (pe_ix (r := rIxL K) ix_list (pv 3) pe_int (fun _ _ => rfl)) pa_nil)))) (pw_or (pt_not (pt_val (pe_call d_is_name.ok (hr.mono (by omega)) (by rfl) d_is_name.g d_is_name.kp d_is_name.b .nil pass0 (pa_cons (pe_ix (r := rIxL K) ix_list (pv 3) pe_int (fun _ _ => rfl)) pa_nil)))) (pw_or1 (pt_cmpR (op_eqS hr.units0) (pe_fld (pv 0) rfl) (pe_lst pa_nil) (nomark _)))))))
        (pss_one ps_never)
        pss_nil)
      (pss_cons (ps_set (i := 4) sr13.nd rfl (Or.inl rfl) (pe_ifExp (pt_cmpR (op_neS hr.units0) (pe_fld (pv 0) rfl) (pe_lst (pa_cons (pe_glob (v := .str "-") (by rfl) T.cnothing.choose_spec ⟨_, rfl⟩) pa_nil)) (nomark _)) (pe_fld (pv 0) rfl) (pe_lst pa_nil)))
      (pss_one (ps_ret (pe_tup (pa_cons (pv 1) (pa_cons (pe_ix (r := rIxL K) ix_list (pv 3) pe_int (fun _ _ => rfl)) (pa_cons (pe_ix (r := rIxL K) ix_list (pv 3) pe_int (fun _ _ => rfl)) (pa_cons (pe_callTy call_tuple_of (by rfl) T.tuple (by decide +kernel) (pa_cons (pe_lc (own := [("one", 5)]) (g := gName 5) (by rfl) sr13.nd (pi_list (pv 4)) (blkOk_by (own := [("one", 5)]) (N := ["self", "word", "spot", "parts", "some", "one"]) (sc := defScope rDeed) (by decide +kernel)) (fun _ _ _ _ _ => (pg_name (i := 5) sr13.nd rfl (Or.inl rfl))) (fun _ _ _ _ _ => pts_nil) (fun _ _ _ _ _ => (pe_meth (pv 0) R.cl m_read_serial.mt m_read_serial.ok (hr.mono (by omega)) m_read_serial.b .nil pass0 (pa_cons (pv 5) pa_nil)))) pa_nil)) pa_nil)))))))))))))), ?_⟩
    cases x with
    | set p l =>
      obtain ⟨hp, hlr⟩ := hx
      refine ⟨.ref r, rfl, r, R0.dx, _, rfl, R0.i, rf_no _ _ (by decide +kernel) (by decide +kernel), r, L, _, _, rfl, R0, by simp, fun H1 o1 R1 => ?_⟩
      refine ⟨.str (S [115, 101, 116]), rfl, rfl, _, rfl, iteT ?_⟩
      refine ⟨.ref r, rfl, r, R1.dx, _, rfl, R1.i, rf_no _ _ (by decide +kernel) (by decide +kernel), .ref r, rfl, r, R1.dx, _, rfl, R1.i, rf_no _ _ (by decide +kernel) (by decide +kernel), r, L, _, _, rfl, R1, by simp, fun H3 o3 R3 => ⟨r, p, by rw [S_cs]; rfl, R3.obj, hp, fun H4 a4 s4 tv4 => ?_⟩⟩
      have R4 := R3.same s4
      have o04 : Off L H H4 := o1.trans (o3.trans (off_same s4))
      refine ⟨.ref r, rfl, r, R4.dx, _, rfl, R4.i, rf_no _ _ (by decide +kernel) (by decide +kernel), .str (S [115, 101, 116]), rfl, .ref a4, rfl, .ref r, rfl, r, R4.dx, _, rfl, R4.i, rf_no _ _ (by decide +kernel) (by decide +kernel), .ref r, rfl, r, R4.dx, _, rfl, R4.i, rf_no _ _ (by decide +kernel) (by decide +kernel), r, L, _, _, rfl, R4, by simp, fun H5 o5 R5 => ⟨r, l, by rw [S_cs]; rfl, R5.obj, hlr, fun H6 s6 => ⟨by show 3 ≤ sizeLine; decide, fun tz nz => ?_⟩⟩⟩
      have R6 := R5.same s6
      have tk46 : TK H4 H6 := (off_tk R4.l o5).trans (tk_same s6)
      have sz := same_new (o := .tup [.str (S [115, 101, 116]), .ref a4, l.v]) nz
      have Rz := R6.same sz
      refine ⟨r, L, .ref tz, rfl, Rz, fun H' s' => ?_⟩
      refine q H' tz ((o04.trans (o5.trans (off_same s6))).trans (off_same (sz.trans s'))) ?_
      have T0 : TV K (upd _ tz (.tup [.str (S [115, 101, 116]), .ref a4, l.v])) (.ref tz) (.tuple _) := .tup (SqT.of upd_same) (.cons (.str "set") (.cons (tv4.tk (tk46.trans (tk_same sz))) (.cons l.tv .nil)))
      exact T0.tk (tk_same s')
    | gone p =>
      have hp := hx
      refine ⟨.ref r, rfl, r, R0.dx, _, rfl, R0.i, rf_no _ _ (by decide +kernel) (by decide +kernel), r, L, _, _, rfl, R0, by simp, fun H1 o1 R1 => ?_⟩
      refine ⟨.str (S [103, 111, 110, 101]), rfl, rfl, _, rfl, iteF ?_⟩
      refine ⟨.str (S [103, 111, 110, 101]), rfl, rfl, _, rfl, iteT ?_⟩
      refine ⟨.ref r, rfl, r, R1.dx, _, rfl, R1.i, rf_no _ _ (by decide +kernel) (by decide +kernel), .str (S [103, 111, 110, 101]), rfl, .ref r, rfl, r, R1.dx, _, rfl, R1.i, rf_no _ _ (by decide +kernel) (by decide +kernel), .ref r, rfl, r, R1.dx, _, rfl, R1.i, rf_no _ _ (by decide +kernel) (by decide +kernel), r, L, _, _, rfl, R1, by simp, fun H3 o3 R3 => ⟨r, p, by rw [S_cs]; rfl, R3.obj, hp, fun H4 a4 s4 tv4 => ⟨by show 2 ≤ sizeLine; decide, fun tz nz => ?_⟩⟩⟩
      have R4 := R3.same s4
      have o04 : Off L H H4 := o1.trans (o3.trans (off_same s4))
      have sz := same_new (o := .tup [.str (S [103, 111, 110, 101]), .ref a4]) nz
      have Rz := R4.same sz
      refine ⟨r, L, .ref tz, rfl, Rz, fun H' s' => ?_⟩
      refine q H' tz (o04.trans (off_same (sz.trans s'))) ?_
      have T0 : TV K (upd _ tz (.tup [.str (S [103, 111, 110, 101]), .ref a4])) (.ref tz) (.tuple _) := .tup (SqT.of upd_same) (.cons (.str "gone") (.cons (tv4.tk (tk_same sz)) .nil))
      exact T0.tk (tk_same s')
    | order fx n ks =>
      obtain ⟨nf, nn, lk, hk⟩ := hx
      have hfl := name_low nf
      have hnl := name_low nn
      have wne : (if ks.isEmpty then [[45]] else ks.map fun k => cs (sh k)) ≠ [] := by
        split
        · simp
        · rename_i hne
          cases ks with
          | nil => exact absurd rfl hne
          | cons a b => simp
      have wlen : (if ks.isEmpty then [[45]] else ks.map fun k => cs (sh k)).length ≤ 1001 := by
        split
        · decide
        · rw [List.length_map]
          omega
      have wS : ks.isEmpty = false → ((if ks.isEmpty then [[45]] else ks.map fun k => cs (sh k)).map S).map V.str = (ks.map sh).map V.str := fun hne => by
        rw [hne]
        show ((ks.map fun k => cs (sh k)).map S).map V.str = _
        have e : (ks.map fun k => cs (sh k)).map S = ks.map sh := by
          rw [List.map_map]
          exact List.map_congr_left fun k _ => S_cs _
        rw [e]
      have w1 : ks.isEmpty = true → (if ks.isEmpty then [[45]] else ks.map fun k => cs (sh k)) = [[45]] := fun e => by rw [e]; rfl
      have w2 : ks.isEmpty = false → (if ks.isEmpty then [[45]] else ks.map fun k => cs (sh k)).map S ≠ [("-" : Str)] := fun e z => by
        rw [e] at z
        have z : (ks.map fun k => cs (sh k)).map S = [("-" : Str)] := z
        cases ks with
        | nil => cases e
        | cons a b =>
          have z2 : S (cs (sh a)) = "-" := (List.cons.inj z).1
          rw [S_cs] at z2
          have z3 : cs (sh a) = [45] := by rw [z2]; rfl
          rw [cs_sh] at z3
          exact absurd (List.cons.inj z3).1 (by decide)
      have R0 : RdAt C H r L ([111, 114, 100, 101, 114] :: cs (fx ++ "/" ++ n) :: (if ks.isEmpty then [[45]] else ks.map fun k => cs (sh k))) := R0
      generalize (if ks.isEmpty then [[45]] else ks.map fun k => cs (sh k)) = ws at R0 wne wlen wS w1 w2
      refine ⟨.ref r, rfl, r, R0.dx, _, rfl, R0.i, rf_no _ _ (by decide +kernel) (by decide +kernel), r, L, _, _, rfl, R0, by rw [List.length_cons]; omega, fun H1 o1 R1 => ?_⟩
      refine ⟨.str (S [111, 114, 100, 101, 114]), rfl, rfl, _, rfl, iteF ?_⟩
      refine ⟨.str (S [111, 114, 100, 101, 114]), rfl, rfl, _, rfl, iteF ?_⟩
      refine ⟨.str (S [111, 114, 100, 101, 114]), rfl, rfl, _, rfl, iteF ?_⟩
      have hsp : Txt.split (S (cs (fx ++ "/" ++ n))) "/" = [fx, n] := by
        have e : S (cs (fx ++ "/" ++ n)) = Txt.join "/" [fx, n] := by
          rw [S_cs]
          apply str_ext
          rw [cs_join, cs_app, cs_app]
          rfl
        rw [e]
        exact split_join (y := "/") (s := 47) (S := []) rfl (by decide +kernel) (by simp) (fun y hy hm => by
          rcases List.mem_cons.mp hy with rfl | hy
          · have := low_mem hfl.1 47 hm
            omega
          · have : y = n := by simpa using hy
            subst this
            have := low_mem hnl.1 47 hm
            omega)
      have plen : (S (cs (fx ++ "/" ++ n))).length ≤ 1000 := by
        rw [S_cs, len_app, len_app]
        show fx.length + 1 + n.length ≤ 1000
        omega
      refine ⟨.ref r, rfl, r, R1.dx, _, rfl, R1.i, rf_no _ _ (by decide +kernel) (by decide +kernel), r, L, _, _, rfl, R1, by omega, fun H3 o3 R3 => ⟨⟨_, rfl⟩, _, _, rfl, rfl, rfl, Nat.le_trans (by omega : (S (cs (fx ++ "/" ++ n))).length + 2 ≤ 6000) (by decide), ?_⟩⟩
      rw [hsp]
      intro PL nPL
      have sp := same_new (o := .lst ([fx, n].map V.str)) nPL
      have hPL : (upd H3 PL (.lst ([fx, n].map V.str))) PL = some (.lst [.str fx, .str n]) := upd_same
      have Rp := R3.same sp
      refine ⟨.ref PL, rfl, PL, _, rfl, .inl (SqL.of hPL), rfl, _, rfl, iteF ?_⟩
      refine ⟨.ref PL, rfl, PL, _, 0, .str fx, rfl, rfl, SqL.of hPL, rfl, fx, rfl, by omega, fun H4 s4 => ⟨_, rfl, ?_⟩⟩
      rw [nf]
      refine iteF ?_
      have hPL4 := s4 _ _ hPL
      refine ⟨.ref PL, rfl, PL, _, 1, .str n, rfl, rfl, SqL.of hPL4, rfl, n, rfl, by omega, fun H5 s5 => ⟨_, rfl, ?_⟩⟩
      rw [nn]
      refine iteF ?_
      have hPL5 := s5 _ _ hPL4
      have R5 := (Rp.same s4).same s5
      refine ⟨.ref r, rfl, r, C, R5.dx, _, _, rfl, R5.i, R.cl, R.nL, rf_words _ _, by show 0 ≤ sizeLine; decide, fun E0 nE => ?_⟩
      have sE := same_new (o := .lst []) nE
      have R6 := R5.same sE
      have hPL6 := sE _ _ hPL5
      refine ⟨L, E0, _, [], rfl, rfl, SqL.of R6.l, SqL.of upd_same, _, rfl, ?_⟩
      have e0 : id (decide (ws.map S = [])) = false := decide_eq_false (by simpa using wne)
      rw [e0]
      refine iteF ?_
      have o06 : Off L H (upd H5 E0 (.lst [])) := (o1.trans o3).trans (off_same (((sp.trans s4).trans s5).trans sE))
      generalize (upd H5 E0 (.lst [])) = H6 at R6 hPL6 o06
      unfold tNext
      dsimp only
      refine asg_any (R := fun v H7 => Same H6 H7 ∧ ∃ M, v = .ref M ∧ H7 M = some (.lst ((ks.map sh).map V.str))) (fun Q' q' => ?_) (fun v H7 hv => ?_)
      · refine ⟨.ref r, rfl, r, C, R6.dx, _, _, rfl, R6.i, R.cl, R.nL, rf_words _ _, by show 1 ≤ sizeLine; decide, fun E1 nE1 => ?_⟩
        have sE1 := same_new (o := .lst [.str "-"]) nE1
        have R7 := R6.same sE1
        refine ⟨L, E1, _, [("-" : Str)], rfl, rfl, SqL.of R7.l, SqL.of upd_same, _, rfl, ?_⟩
        cases hke : ks.isEmpty with
        | true =>
          have ek : ks = [] := List.isEmpty_iff.mp hke
          have e1 : (fun x : Bool => !x) (decide (ws.map S = [("-" : Str)])) = false := by
            rw [w1 hke]
            rfl
          rw [e1]
          refine iteF ⟨by show 0 ≤ sizeLine; decide, fun M nM => q' _ _ ⟨sE1.trans (same_new nM), M, rfl, ?_⟩⟩
          rw [upd_same, ek]
          rfl
        | false =>
          have e1 : (fun x : Bool => !x) (decide (ws.map S = [("-" : Str)])) = true := by
            rw [decide_eq_false (w2 hke)]
            rfl
          rw [e1]
          refine iteT ⟨.ref r, rfl, r, C, R7.dx, _, _, rfl, R7.i, R.cl, R.nL, rf_words _ _, q' _ _ ⟨sE1, L, rfl, ?_⟩⟩
          rw [← wS hke]
          exact R7.l
      · obtain ⟨s7, M, rfl, hM⟩ := hv
        have R7 := R6.same s7
        have hPL7 := s7 _ _ hPL6
        refine ⟨.str (S [111, 114, 100, 101, 114]), rfl, .ref PL, rfl, PL, _, 0, .str fx, rfl, rfl, SqL.of hPL7, rfl, .ref PL, rfl, PL, _, 1, .str n, rfl, rfl, SqL.of hPL7, rfl, .ref M, rfl, M, rfl, ⟨_, SqL.of hM⟩, fun D nD => ?_⟩
        refine lc_list (K := K) (a := M) (xs := (ks.map sh).map V.str) (fun i H2 => Same H7 H2 ∧ H2 D = some (.lst ((ks.take i).map intV))) ⟨same_new nD, upd_same⟩ (fun i H2 _ hP => SqL.of (hP.1 _ _ hM)) (fun i x H2 hx hP => ?_) (fun H2 hP => ?_)
        · obtain ⟨sm, hD⟩ := hP
          rw [List.map_map] at hx
          obtain ⟨k, hk2, rfl⟩ := map_at hx
          have hi := (List.getElem?_eq_some_iff.mp hk2).1
          have R8 := R7.same sm
          refine ⟨rfl, .ref r, rfl, r, R8.dx, _, rfl, R8.i, rf_no _ _ (by decide +kernel) (by decide +kernel), .str (sh k), rfl, r, k, rfl, R8.obj, hk k (List.mem_of_getElem? hk2), fun H3 s3 => ⟨_, s3 _ _ hD, ?_, same_put (sm.trans s3) nD, ?_⟩⟩
          · rw [List.length_map, List.length_take]
            exact Nat.lt_of_le_of_lt (Nat.min_le_left _ _) (Nat.lt_of_lt_of_le (by omega) (big_le (n := 1000000) (by decide)))
          · rw [upd_same, take_lab hk2]
            rfl
        · obtain ⟨sm, hD⟩ := hP
          rw [List.length_map, List.length_map, List.take_length] at hD
          refine ⟨D, _, rfl, .inl ⟨SqL.of hD, fun a na => ⟨by show 4 ≤ sizeLine; decide, fun tz nz => ?_⟩⟩⟩
          have sa := same_new (o := .tup (ks.map intV)) na
          have sz := same_new (o := .tup [.str (S [111, 114, 100, 101, 114]), .str fx, .str n, .ref a]) nz
          refine q _ tz (o06.trans (off_same ((s7.trans sm).trans (sa.trans sz)))) (.tup (SqT.of upd_same) (.cons (.str "order") (.cons (.str fx) (.cons (.str n) (.cons (.tup (SqT.of (sz _ _ upd_same)) (ints_tv ks)) .nil)))))
end
end M91

set_option Elab.async false
set_option linter.all false
set_option maxRecDepth 100000
set_option maxHeartbeats 4000000
/-! no word of a step or a deed has a blank or a semicolon outside of quotes -/
namespace M91
open PySem PySem.Spec PyProof.Rows L2 GL TL
/-- no quote, no blank, no semicolon -/
def Pln (x : List Nat) : Prop := ∀ c ∈ x, c ≠ 34 ∧ c ≠ 32 ∧ c ≠ 59
/-- sealed for both marks -/
def Sl (x : List Nat) : Prop := Sealed 32 x ∧ Sealed 59 x
theorem Pln.sl {x : List Nat} (h : Pln x) : Sl x := ⟨sealed_plain fun c hc => ⟨(h c hc).1, (h c hc).2.1⟩, sealed_plain fun c hc => ⟨(h c hc).1, (h c hc).2.2⟩⟩
theorem Pln.app {x y : List Nat} (h : Pln x) (g : Pln y) : Pln (x ++ y) := fun c hc => (List.mem_append.mp hc).elim (h c) (g c)
theorem Pln.cons {a : Nat} {y : List Nat} (h : a ≠ 34 ∧ a ≠ 32 ∧ a ≠ 59) (g : Pln y) : Pln (a :: y) := fun c hc => by
  rcases List.mem_cons.mp hc with rfl | hc
  · exact h
  · exact g c hc
theorem pln_name {x : Str} (h : isName x = true) : Pln (cs x) := fun c hc => by
  have := low_mem (name_low h).1 c hc
  omega
theorem pln_num (k : Nat) : Pln (cs (nT (k : Int))) := fun c hc => by
  rw [cs_num] at hc
  have := numL_digits k c hc
  omega
theorem pln_sh (k : Nat) : Pln (cs (sh k)) := by
  rw [cs_sh]
  refine Pln.cons (by decide) ?_
  rw [← cs_num]
  exact pln_num k
theorem pln_path {ots : List Str} (ho : ots = [] ∨ ots = [("*" : Str)]) {p : Path} (h : ∀ l ∈ p, l.rd ots) : Pln (cs (pathT p)) := fun c hc => by
  rcases path_signs ho h c hc with h | h | h | h | h <;> omega
theorem pln_nil : Pln [] := fun _ z => nomatch z
theorem pln_slash : Pln (cs "/") := Pln.cons (a := 47) (y := []) (by decide) pln_nil
theorem pln_place {x : Place} (h : Place.rd x) : Pln (cs (placeT x)) := by
  unfold placeT
  rw [cs_app, cs_app]
  exact ((pln_name h.1).app pln_slash).app (pln_path (.inl rfl) h.2.2.2)
theorem pln_spot {x : Spot} (h : x.rd) : Pln (cs x.t) := by
  have e : cs x.t = cs x.f ++ [47] ++ (cs x.o ++ [47] ++ cs (pathT x.p)) := by
    show cs (Txt.join "/" [x.f, x.o, pathT x.p]) = _
    rw [cs_join]
    rfl
  rw [e]
  have s : Pln [47] := Pln.cons (by decide) (fun _ z => nomatch z)
  have ho : Pln (cs x.o) := by
    rcases h.2.1 with e | e
    · rw [e]
      exact fun _ z => nomatch z
    · exact pln_name e
  exact ((pln_name h.1).app s).app ((ho.app s).app (pln_path (.inr rfl) h.2.2.2.2))
theorem sl_lit {l : Lit} (h : l.rd) : Sl (cs l.t) := by
  cases l with
  | s x =>
    have e : cs (Lit.s x).t = 34 :: (cs x ++ [34]) := by
      show cs ("\"" ++ x ++ "\"") = _
      rw [cs_app, cs_app]
      rfl
    rw [e]
    have h : Part x := h
    have h2 : ∀ c ∈ cs x, c ≠ 34 := fun c hc => (h.2 c hc).2.2.1
    exact ⟨sealed_quoted (by decide) h2, sealed_quoted (by decide) h2⟩
  | i n =>
    show Sl (cs (nT n))
    refine Pln.sl ?_
    by_cases hn : 0 ≤ n
    · obtain ⟨k, rfl⟩ : ∃ k : Nat, n = k := ⟨n.toNat, by omega⟩
      exact pln_num k
    · obtain ⟨k, hk, rfl⟩ : ∃ k : Nat, 0 < k ∧ n = -(k : Int) := ⟨(-n).toNat, by omega, by omega⟩
      rw [cs_neg k hk]
      refine Pln.cons (by decide) ?_
      rw [← cs_num]
      exact pln_num k
theorem sl_one {a : Nat} (h : a ≠ 34 ∧ a ≠ 32 ∧ a ≠ 59) : Sl [a] := Pln.sl (Pln.cons h fun _ z => nomatch z)
theorem allS_app {a b : List (List Nat)} (h : ∀ x ∈ a, Sl x) (g : ∀ x ∈ b, Sl x) : ∀ x ∈ a ++ b, Sl x := fun x hx => (List.mem_append.mp hx).elim (h x) (g x)
theorem allS_cons {a : List Nat} {b : List (List Nat)} (h : Sl a) (g : ∀ x ∈ b, Sl x) : ∀ x ∈ a :: b, Sl x := fun x hx => by
  rcases List.mem_cons.mp hx with rfl | hx
  · exact h
  · exact g x hx
theorem allS_nil : ∀ x ∈ ([] : List (List Nat)), Sl x := fun _ z => nomatch z
mutual
theorem Wo.sl : ∀ {w : Wo}, w.rd → ∀ x ∈ w.W, Sl x
  | .lit l, h => allS_cons (sl_lit h) allS_nil
  | .rc r, h => allS_cons (sl_one (by decide)) (allS_app (Rc.sl (r := r) h) (allS_cons (sl_one (by decide)) allS_nil))
  | .rw t, h => allS_cons (sl_one (by decide)) (allS_app (Rw.sl (t := t) h) (allS_cons (sl_one (by decide)) allS_nil))
theorem Rc.sl : ∀ {r : Rc}, r.rd → ∀ x ∈ r.W, Sl x
  | .nil, _ => allS_nil
  | .cons n w r, h => allS_cons (Pln.sl ((pln_name h.1).app (Pln.cons (by decide) fun _ z => nomatch z))) (allS_app (Wo.sl (w := w) h.2.1) (Rc.sl (r := r) h.2.2))
theorem Rw.sl : ∀ {t : Rw}, t.rd → ∀ x ∈ t.W, Sl x
  | .nil, _ => allS_nil
  | .cons k r t, h => allS_cons (pln_sh k).sl (allS_app (allS_cons (sl_one (by decide)) (allS_app (Rc.sl (r := r) h.2.1) (allS_cons (sl_one (by decide)) allS_nil))) (Rw.sl (t := t) h.2.2))
end
theorem pln_dec {l : List Nat} (h : (l.all fun c => decide (c ≠ 34 ∧ c ≠ 32 ∧ c ≠ 59)) = true) : Pln l := fun c hc => of_decide_eq_true (List.all_eq_true.mp h c hc)
theorem Stp.sl {x : Stp} (h : x.rd) : ∀ w ∈ x.W, Sl w := by
  cases x with
  | set p l => exact allS_cons (pln_dec rfl).sl (allS_cons (pln_place h.1).sl (allS_cons (sl_lit h.2) allS_nil))
  | take p k => exact allS_cons (pln_dec rfl).sl (allS_cons (pln_place h.1).sl (allS_cons (pln_sh k).sl allS_nil))
  | put p i k r => exact allS_cons (pln_dec rfl).sl (allS_cons (pln_place h.1).sl (allS_cons (pln_num i).sl (allS_cons (pln_sh k).sl (allS_cons (sl_one (by decide)) (allS_app (Rc.sl (r := r) h.2.2.2.1) (allS_cons (sl_one (by decide)) allS_nil))))))
  | carry p k q i => exact allS_cons (pln_dec rfl).sl (allS_cons (pln_place h.1).sl (allS_cons (pln_sh k).sl (allS_cons (pln_place h.2.2.1).sl (allS_cons (pln_num i).sl allS_nil))))
theorem Dd.sl {x : Dd} (h : x.rd) : ∀ w ∈ x.W, Sl w := by
  cases x with
  | set s l => exact allS_cons (pln_dec rfl).sl (allS_cons (pln_spot h.1).sl (allS_cons (sl_lit h.2) allS_nil))
  | gone s => exact allS_cons (pln_dec rfl).sl (allS_cons (pln_spot h).sl allS_nil)
  | order f n ks =>
    refine allS_cons (pln_dec rfl).sl (allS_cons ?_ ?_)
    · rw [cs_app, cs_app]
      exact (((pln_name h.1).app pln_slash).app (pln_name h.2.1)).sl
    · cases ks with
      | nil => exact allS_cons (sl_one (by decide)) allS_nil
      | cons k ks =>
        intro w hw
        have hw : w ∈ (k :: ks).map fun k => cs (sh k) := hw
        obtain ⟨j, _, rfl⟩ := List.mem_map.mp hw
        exact (pln_sh j).sl
/-- the text by its words -/
theorem Stp.tW (x : Stp) : cs x.t = jn [32] x.W := by
  cases x with
  | put p i k r =>
    show cs (Txt.join " " ["put", placeT p, nT i, sh k, r.t]) = _
    rw [cs_join]
    have h1 := jn_in [32] ([123] :: (r.W ++ [[125]])) (by simp) [cs "put", cs (placeT p), cs (nT (i : Int)), cs (sh k)] []
    rw [← Rc.t_W, List.append_nil] at h1
    exact h1
  | set p l =>
    show cs (Txt.join " " ["set", placeT p, l.t]) = _
    rw [cs_join]
    rfl
  | take p k =>
    show cs (Txt.join " " ["take", placeT p, sh k]) = _
    rw [cs_join]
    rfl
  | carry p k q i =>
    show cs (Txt.join " " ["carry", placeT p, sh k, placeT q, nT i]) = _
    rw [cs_join]
    rfl
theorem Dd.tW (x : Dd) : cs x.t = jn [32] x.W := by
  cases x with
  | set s l =>
    show cs (Txt.join " " ["set", s.t, l.t]) = _
    rw [cs_join]
    rfl
  | gone s =>
    show cs (Txt.join " " ["gone", s.t]) = _
    rw [cs_join]
    rfl
  | order f n ks =>
    show cs (Txt.join " " ("order" :: (f ++ "/" ++ n) :: ksT ks)) = _
    rw [cs_join]
    show jn [32] (cs "order" :: cs (f ++ "/" ++ n) :: (ksT ks).map cs) = jn [32] (cs "order" :: cs (f ++ "/" ++ n) :: _)
    cases ks with
    | nil => rfl
    | cons k ks =>
      show jn [32] (cs "order" :: cs (f ++ "/" ++ n) :: ((k :: ks).map sh).map cs) = jn [32] (cs "order" :: cs (f ++ "/" ++ n) :: (k :: ks).map fun k => cs (sh k))
      rw [List.map_map]
      rfl
theorem Stp.W_ne (x : Stp) : x.W ≠ [] := by cases x <;> simp [Stp.W]
theorem Dd.W_ne (x : Dd) : x.W ≠ [] := by cases x <;> simp [Dd.W]
/-- words joined by blanks have no semicolon outside of quotes -/
theorem jn_sl59 : ∀ {ws : List (List Nat)}, (∀ x ∈ ws, Sl x) → Sealed 59 (jn [32] ws)
  | [], _ => rfl
  | [w], h => (h w (List.mem_cons_self ..)).2
  | w :: y :: r, h => by
    have s : Sealed 59 [32] := rfl
    exact ((h w (List.mem_cons_self ..)).2.app s).app (jn_sl59 fun x hx => h x (List.mem_cons_of_mem _ hx))
theorem Stp.t59 {x : Stp} (h : x.rd) : Sealed 59 (cs x.t) := by
  rw [Stp.tW]
  exact jn_sl59 (Stp.sl h)
theorem Dd.t59 {x : Dd} (h : x.rd) : Sealed 59 (cs x.t) := by
  rw [Dd.tW]
  exact jn_sl59 (Dd.sl h)
/-- the words of what was written -/
theorem Stp.pz {x : Stp} (h : x.rd) {n : Nat} (hn : (cs x.t).length < n) : pz [32] n (cs x.t) [] false = x.W := by
  rw [Stp.tW] at hn ⊢
  exact pz_jn 32 (by decide) [] x.W n x.W_ne (fun w hw => (Stp.sl h w hw).1) hn
theorem Dd.pz {x : Dd} (h : x.rd) {n : Nat} (hn : (cs x.t).length < n) : M91.pz [32] n (cs x.t) [] false = x.W := by
  rw [Dd.tW] at hn ⊢
  exact pz_jn 32 (by decide) [] x.W n x.W_ne (fun w hw => (Dd.sl h w hw).1) hn
/-- the parts of what was written -/
theorem parts_pz {ts : List Str} (hne : ts ≠ []) (h : ∀ x ∈ ts, Sealed 59 (cs x)) {n : Nat} (hn : (Txt.join "; " ts).length < n) : M91.pz [59, 32] n (cs (Txt.join "; " ts)) [] false = ts.map cs := by
  rw [len_cs] at hn
  rw [cs_join] at hn ⊢
  refine pz_jn 59 (by decide) [32] (ts.map cs) n (by simpa using hne) (fun w hw => ?_) hn
  obtain ⟨x, hx, rfl⟩ := List.mem_map.mp hw
  exact h x hx
theorem jn_w (s : List Nat) : ∀ (ws : List (List Nat)), ws.length ≤ (jn s ws).length + 1 ∨ s = []
  | [] => .inl (by simp)
  | [w] => .inl (by simp)
  | w :: y :: r => by
    rcases jn_w s (y :: r) with h | h
    · by_cases e : s = []
      · exact .inr e
      · refine .inl ?_
        rw [jn_cons s w (by simp), List.length_append, List.length_append]
        have : 0 < s.length := List.length_pos_iff.mpr e
        rw [List.length_cons]
        omega
    · exact .inr h
theorem Stp.W_len (x : Stp) : x.W.length ≤ x.t.length + 1 := by
  rw [len_cs, Stp.tW]
  rcases jn_w [32] x.W with h | h
  · exact h
  · cases h
end M91

set_option Elab.async false
set_option linter.all false
set_option maxRecDepth 100000
set_option maxHeartbeats 4000000
/-! Reading(..), parts_read -/
namespace M91
open PySem PySem.Spec PyProof.Rows L2 GL TL
theorem scPR : FnScope ["text", "part"] ["text"] (defScope sParts) := ⟨rfl, rfl, rfl, by decide +kernel, rfl, by decide +kernel, by decide +kernel⟩
abbrev bl (x : Str) : List (List Nat) := pz [32] (x.length + 1) (cs x) [] false
section
variable {P : Program} {w : World} {K : PySem.W.Frag} {mg : Str → Option Value} {base : Heap} {C : Addr}
def spInit (C : Addr) : Sp := fun vs H Q _ => ∃ (r dx : Addr) (t z : Str), vs = [.ref r, .str t, .str z] ∧ H r = some (.ins C dx []) ∧ z.length ≤ 15000000 ∧ ∀ H' L, Off r H H' → H L = none → RdAt C H' r L (bl z) → Q .non H'
theorem ok_init {f : Addr} {fd : FuncData} (F : Fun K "__init__" "Reading.__init__" rInit f fd) (T : Bl K mg) (R : Rg K mg C) (d_pieces : DnO P w K mg base "pieces" 1 ["text", "mark"] spPieces) : FnOk P w K mg base CX0 2 f fd ["self", "whole", "part"] (spInit C) := by
  refine F.ok sr0 (fun vs H Q E h => ?_) (fun cdv A outer s H vs Q E hr h => ?_)
  · obtain ⟨r, dx, t, z, rfl, _⟩ := h
    rfl
  · obtain ⟨r, dx, t, z, rfl, hi, hz, q⟩ := h
    refine ⟨_, (pss_cons (ps_fld (pv 0) (pv 1) rfl)
      (pss_one (ps_fld (pv 0) (pe_call d_pieces.ok (hr.mono (by omega)) (by rfl) d_pieces.g d_pieces.kp d_pieces.b .nil pass0 (pa_cons (pv 2) (pa_cons (pe_glob (v := .str " ") (by rfl) T.cblank.choose_spec ⟨_, rfl⟩) pa_nil))) rfl))), ?_⟩
    refine ⟨.str t, rfl, .ref r, rfl, r, C, dx, [], rfl, hi, R.cl, R.nH, by show 0 < 1000; decide, ?_⟩
    refine ⟨.str z, rfl, z, " ", rfl, by decide, by decide, hz, fun H1 L s1 nL hL => ?_⟩
    refine ⟨.ref r, rfl, r, C, dx, _, rfl, s1 _ _ upd_same, R.cl, R.nL, by show 1 < 1000; decide, ?_⟩
    have ne : L ≠ r := fun e => by
      rw [e, upd_same] at nL
      cases nL
    rw [upd_ne ne] at nL
    refine q _ L (fun a o na h => ?_) nL ⟨dx, t, upd_same, ?_⟩
    · rw [upd_ne na]
      exact s1 _ _ (by rw [upd_ne na]; exact h)
    · rw [upd_ne ne]
      exact hL
/-- Reading(..) -/
structure MkR (P : Program) (w : World) (K : PySem.W.Frag) (mg : Str → Option Value) (base : Heap) (C : Addr) where
  f : Addr
  fd : FuncData
  ok : FnOk P w K mg base CX0 2 f fd ["self", "whole", "part"] (spInit C)
  mak : Mk K C f
  g : mg "Reading" = some (.ref C)
  b : Binds K fd ["self", "whole", "part"] []
/-- readings at their places: the reading, its words' list, its words -/
abbrev Rdg := Addr × Addr × List (List Nat)
def Rds (C : Addr) (H : Hp) (ts : List Rdg) : Prop := (∀ x ∈ ts, RdAt C H x.1 x.2.1 x.2.2) ∧ (ts.map fun x => x.2.1).Nodup
def rdV (x : Rdg) : V := .ref x.1
def spParts (C : Addr) : Sp := fun vs H Q _ => ∃ (t : Str) (parts : List Str), vs = [.str t] ∧ ((parts = [] ∧ t = "-") ∨ (t ≠ "-" ∧ t.length ≤ 15000000 ∧ pz [59, 32] (t.length + 1) (cs t) [] false = parts.map cs)) ∧ parts.length ≤ 1000 ∧ (∀ x ∈ parts, x.length ≤ 15000000) ∧
  ∀ H' D ts, Same H H' → H' D = some (.lst (ts.map rdV)) → Rds C H' ts → (∀ x ∈ ts, H x.2.1 = none ∧ x.2.1 ≠ D) → (ts.map fun x => x.2.2) = parts.map bl → Q (.ref D) H'
theorem ok_parts {f : Addr} {fd : FuncData} (F : Fun K "parts_read" "parts_read" sParts f fd) (T : Bl K mg) (d_pieces : DnO P w K mg base "pieces" 1 ["text", "mark"] spPieces) (k_Reading : MkR P w K mg base C) : FnOk P w K mg base CX0 4 f fd ["text"] (spParts C) := by
  refine F.ok scPR (fun vs H Q E h => ?_) (fun cdv A outer s H vs Q E hr h => ?_)
  · obtain ⟨t, parts, rfl, _⟩ := h
    rfl
  · obtain ⟨t, parts, rfl, ht, hl, hp, q⟩ := h
    refine ⟨_, (pss_cons (ps_if (pt_not (pt_val (pe_callB call_isi (by rfl) T.isinstance (by decide +kernel) (pa_cons (pv 0) (pa_cons (pe_bltn (v := .ty "str") (by rfl) T.str (by decide +kernel) rfl) pa_nil)))))
        (pss_one ps_never)
        pss_nil)
      (pss_one (ps_ret (pe_ifExp (pt_cmpR op_eq (pv 0) (pe_glob (v := .str "-") (by rfl) T.cnothing.choose_spec ⟨_, rfl⟩) (nomark _)) (pe_lst pa_nil) (pe_lc (own := [("part", 1)]) (g := gName 1) (by rfl) scPR.nd (pi_list (pe_call d_pieces.ok (hr.mono (by omega)) (by rfl) d_pieces.g d_pieces.kp d_pieces.b .nil pass0 (pa_cons (pv 0) (pa_cons (pe_glob (v := .str "; ") (by rfl) T.cbetween.choose_spec ⟨_, rfl⟩) pa_nil)))) (blkOk_by (own := [("part", 1)]) (N := ["text", "part"]) (sc := defScope sParts) (by decide +kernel)) (fun _ _ _ _ _ => (pg_name (i := 1) scPR.nd rfl (Or.inl rfl))) (fun _ _ _ _ _ => pts_nil) (fun _ _ _ _ _ => (pe_make k_Reading.mak k_Reading.ok (hr.mono (by omega)) (by rfl) k_Reading.g k_Reading.b .nil pass0 (pa_cons (pv 0) (pa_cons (pv 1) pa_nil))))))))), ?_⟩
    refine ⟨.str t, rfl, .str t, .ty "str", _, _, true, rfl, .ty "str", .base (.str t), kit_ty kSS, true, rfl, iteF ?_⟩
    refine ⟨.str t, rfl, rfl, _, rfl, ?_⟩
    rcases ht with ⟨rfl, rfl⟩ | ⟨tn, tz, tp⟩
    · refine iteT ⟨by show 0 ≤ sizeLine; decide, fun D nD => ?_⟩
      exact q _ D [] (same_new nD) upd_same ⟨(fun x hx => nomatch hx), List.nodup_nil⟩ (fun x hx => nomatch hx) rfl
    · refine ite2 (fun e => absurd (V.str.inj (of_decide_eq_true e)) tn) (fun _ => ?_)
      refine ⟨.str t, rfl, t, "; ", rfl, by decide, by decide, tz, fun H1 L0 s1 nL0 hL0 => ?_⟩
      have hL0 : H1 L0 = some (.lst (parts.map V.str)) := by
        have e : pz (cs "; ") (t.length + 1) (cs t) [] false = parts.map cs := tp
        rw [e, List.map_map, List.map_map] at hL0
        rw [hL0]
        congr 2
      refine ⟨L0, rfl, ⟨_, SqL.of hL0⟩, fun D nD => ?_⟩
      refine lc_list (K := K) (a := L0) (xs := parts.map V.str) (fun i H2 => Same H1 H2 ∧ ∃ ts : List Rdg, H2 D = some (.lst (ts.map rdV)) ∧ Rds C H2 ts ∧ (∀ x ∈ ts, H x.2.1 = none ∧ x.2.1 ≠ D) ∧ (ts.map fun x => x.2.2) = (parts.take i).map bl)
        ⟨same_new nD, [], upd_same, ⟨(fun x hx => nomatch hx), List.nodup_nil⟩, (fun x hx => nomatch hx), rfl⟩ (fun i H2 _ hP => SqL.of (hP.1 _ _ hL0)) (fun i x H2 hx hP => ?_) (fun H2 hP => ?_)
      · obtain ⟨sm, ts, hD, ⟨hr1, hnd⟩, hf, hw⟩ := hP
        obtain ⟨y, hy, rfl⟩ : ∃ y, parts[i]? = some y ∧ x = .str y := by
          rw [List.getElem?_map] at hx
          cases e : parts[i]? with
          | none =>
            rw [e] at hx
            cases hx
          | some y =>
            rw [e] at hx
            exact ⟨y, rfl, (Option.some.inj hx).symm⟩
        have hil : i < parts.length := (List.getElem?_eq_some_iff.mp hy).1
        refine ⟨rfl, .str t, rfl, .str y, rfl, fun r dx nr ndx ne => ⟨r, dx, t, y, rfl, upd_same, hp y (List.mem_of_getElem? hy), fun H3 L o3 nL R3 => ⟨rfl, ?_⟩⟩⟩
        have s3 : Same H2 H3 := fun a o h => o3 a o (ne_of_none h nr) (by
          rw [upd_ne (ne_of_none h nr), upd_ne (ne_of_none h ndx)]
          exact h)
        have hD3 := s3 _ _ hD
        have Lr : L ≠ r := fun e => by
          rw [e, upd_same] at nL
          cases nL
        have nL2 : H2 L = none := by
          rw [upd_ne Lr] at nL
          by_cases e : L = dx
          · rw [e, upd_same] at nL
            cases nL
          · rw [upd_ne e] at nL
            exact nL
        have DL : D ≠ L := ne_of_none hD nL2
        have nLH : H L = none := by
          cases e : H L with
          | none => rfl
          | some o =>
            rw [sm _ _ (s1 _ _ e)] at nL2
            cases nL2
        have keep : ∀ {u : HO} (x : Rdg), x.2.1 ≠ D → RdAt C H3 x.1 x.2.1 x.2.2 → RdAt C (upd H3 D u) x.1 x.2.1 x.2.2 := fun {u} x nx h => by
          obtain ⟨dx, t, h1, h2⟩ := h
          refine ⟨dx, t, ?_, ?_⟩
          · rw [upd_ne (ne_of h1 hD3 (by intro z; cases z))]
            exact h1
          · rw [upd_ne nx]
            exact h2
        have e1 : ((ts ++ [(r, L, bl y)]).map rdV) = ts.map rdV ++ [V.ref r] := by
          rw [List.map_append]
          rfl
        have lt : ts.length = i := by
          have := congrArg List.length hw
          rw [List.length_map, List.length_map, List.length_take] at this
          omega
        refine ⟨_, hD3, ?_, ?_, ts ++ [(r, L, bl y)], ?_, ⟨fun x hx => ?_, ?_⟩, fun x hx => ?_, ?_⟩
        · rw [List.length_map]
          exact Nat.lt_of_lt_of_le (by omega : ts.length < 1001) (big_le (n := 1001) (by decide))
        · exact same_put (sm.trans s3) nD
        · rw [upd_same, e1]
        · rcases List.mem_append.mp hx with hx | hx
          · exact keep x (hf x hx).2 ((hr1 x hx).same s3)
          · have : x = (r, L, bl y) := by simpa using hx
            subst this
            exact keep _ DL.symm R3
        · rw [List.map_append, List.nodup_append]
          refine ⟨hnd, by simp, fun a ha b hb => ?_⟩
          have : b = L := by simpa using hb
          subst this
          obtain ⟨x, hx, rfl⟩ := List.mem_map.mp ha
          obtain ⟨_, _, _, h2⟩ := hr1 x hx
          exact ne_of_none h2 nL2
        · rcases List.mem_append.mp hx with hx | hx
          · exact hf x hx
          · have : x = (r, L, bl y) := by simpa using hx
            subst this
            exact ⟨nLH, DL.symm⟩
        · rw [List.map_append, hw, take_lab hy]
          rfl
      · obtain ⟨sm, ts, hD, hr, hf, hw⟩ := hP
        rw [List.length_map, List.take_length] at hw
        exact q H2 D ts (s1.trans sm) hD hr hf hw
end
end M91

set_option Elab.async false
set_option linter.all false
set_option maxRecDepth 100000
set_option maxHeartbeats 4000000
/-! read_edit -/
namespace M91
open PySem PySem.Spec PyProof.Rows L2 GL TL
theorem scRE : FnScope ["text", "found", "reading"] ["text"] (defScope sReadE) := ⟨rfl, rfl, rfl, by decide +kernel, rfl, by decide +kernel, by decide +kernel⟩
theorem at_map {α β : Type} {f : α → β} {l : List α} {i : Nat} {x : β} (h : (l.map f)[i]? = some x) : ∃ y, l[i]? = some y ∧ x = f y := by
  rw [List.getElem?_map] at h
  cases e : l[i]? with
  | none =>
    rw [e] at h
    cases h
  | some y =>
    rw [e] at h
    exact ⟨y, rfl, (Option.some.inj h).symm⟩
theorem none_of {H H' : Hp} (s : Same H H') {D : Addr} (h : H' D = none) : H D = none := by
  cases e : H D with
  | none => rfl
  | some o =>
    rw [s _ _ e] at h
    cases h
theorem Stp.first (x : Stp) : ∃ c r, cs x.t = c :: r ∧ c ≠ 45 := by
  rw [Stp.tW]
  cases x with
  | set p l => exact ⟨115, _, rfl, by decide⟩
  | take p l => exact ⟨116, _, rfl, by decide⟩
  | put p i k r => exact ⟨112, _, rfl, by decide⟩
  | carry p k q i => exact ⟨99, _, rfl, by decide⟩
theorem Dd.first (x : Dd) : ∃ c r, cs x.t = c :: r ∧ c ≠ 45 := by
  rw [Dd.tW]
  cases x with
  | set p l => exact ⟨115, _, rfl, by decide⟩
  | gone p => exact ⟨103, _, rfl, by decide⟩
  | order f n ks => exact ⟨111, _, rfl, by decide⟩
theorem join_first {x : Str} {r : List Str} {c : Nat} {l : List Nat} (h : cs x = c :: l) : ∃ m, cs (Txt.join "; " (x :: r)) = c :: m := by
  rw [cs_join, List.map_cons, h]
  cases r with
  | nil => exact ⟨l, rfl⟩
  | cons y r =>
    rw [List.map_cons, jn_cons _ _ (by simp)]
    exact ⟨_, rfl⟩
theorem join_no {x : Str} {r : List Str} {c : Nat} {l : List Nat} (h : cs x = c :: l) (hc : c ≠ 45) : Txt.join "; " (x :: r) ≠ "-" := fun e => by
  obtain ⟨m, h2⟩ := join_first (r := r) h
  rw [e] at h2
  have : cs ("-" : Str) = [45] := rfl
  rw [this] at h2
  exact hc (List.cons.inj h2).1.symm
/-- what parts_read is asked -/
theorem eT_parts {e : List Stp} (ok : ∀ x ∈ e, x.ok) (rd : ∀ x ∈ e, x.rd) (h30 : e.length ≤ 30) : ((e.map Stp.t = [] ∧ eT e = "-") ∨ (eT e ≠ "-" ∧ (eT e).length ≤ 15000000 ∧ pz [59, 32] ((eT e).length + 1) (cs (eT e)) [] false = (e.map Stp.t).map cs)) := by
  cases e with
  | nil => exact .inl ⟨rfl, rfl⟩
  | cons x r =>
    have hs := eT_sum (x :: r) ok
    have hj := join_le "; " ((x :: r).map Stp.t)
    have e2 : ("; " : Str).length = 2 := rfl
    rw [List.length_map, e2] at hj
    obtain ⟨c, l, h1, h2⟩ := x.first
    refine .inr ⟨join_no (r := r.map Stp.t) h1 h2, ?_, ?_⟩
    · show (Txt.join "; " ((x :: r).map Stp.t)).length ≤ _
      omega
    · refine parts_pz (ts := (x :: r).map Stp.t) (by simp) (fun y hy => ?_) (Nat.lt_succ_self _)
      obtain ⟨z, hz, rfl⟩ := List.mem_map.mp hy
      exact Stp.t59 (rd z hz)
theorem pT_parts {e : List Dd} (ok : ∀ x ∈ e, x.ok) (rd : ∀ x ∈ e, x.rd) (h30 : e.length ≤ 30) : ((e.map Dd.t = [] ∧ pT e = "-") ∨ (pT e ≠ "-" ∧ (pT e).length ≤ 15000000 ∧ pz [59, 32] ((pT e).length + 1) (cs (pT e)) [] false = (e.map Dd.t).map cs)) := by
  cases e with
  | nil => exact .inl ⟨rfl, rfl⟩
  | cons x r =>
    have hs := pT_sum (x :: r) ok
    have hj := join_le "; " ((x :: r).map Dd.t)
    have e2 : ("; " : Str).length = 2 := rfl
    rw [List.length_map, e2] at hj
    obtain ⟨c, l, h1, h2⟩ := x.first
    refine .inr ⟨join_no (r := r.map Dd.t) h1 h2, ?_, ?_⟩
    · show (Txt.join "; " ((x :: r).map Dd.t)).length ≤ _
      omega
    · refine parts_pz (ts := (x :: r).map Dd.t) (by simp) (fun y hy => ?_) (Nat.lt_succ_self _)
      obtain ⟨z, hz, rfl⟩ := List.mem_map.mp hy
      exact Dd.t59 (rd z hz)
section
variable {P : Program} {w : World} {K : PySem.W.Frag} {mg : Str → Option Value} {base : Heap} {C : Addr}
def spReadE (K : PySem.W.Frag) : Sp := fun vs H Q _ => ∃ (e : List Stp), vs = [.str (eT e)] ∧ e.length ≤ 30 ∧ (∀ x ∈ e, x.ok) ∧ (∀ x ∈ e, x.rd) ∧ ∀ H' a, Same H H' → TV K H' (.ref a) (.tuple (e.map Stp.d)) → Q (.ref a) H'
theorem ok_readE {f : Addr} {fd : FuncData} (F : Fun K "read_edit" "read_edit" sReadE f fd) (T : Bl K mg) (R : Rg K mg C) (d_parts_read : DnO P w K mg base "parts_read" 4 ["text"] (spParts C)) (m_read_step : DnM P w K mg base C "read_step" 123 ["self"] (spStepR K C)) (d_show_edit : DnO P w K mg base "show_edit" 128 ["edit"] (spShowE K)) :
    FnOk P w K mg base CX0 129 f fd ["text"] (spReadE K) := by
  refine F.ok scRE (fun vs H Q E h => ?_) (fun cdv A outer s H vs Q E hr h => ?_)
  · obtain ⟨e, rfl, _⟩ := h
    rfl
  · obtain ⟨e, rfl, h30, ok, rd, q⟩ := h
    refine ⟨_, (pss_cons (ps_set (i := 1) scRE.nd rfl (Or.inl rfl) (pe_callTy call_tuple_of (by rfl) T.tuple (by decide +kernel) (pa_cons (pe_lc (own := [("reading", 2)]) (g := gName 2) (by rfl) scRE.nd (pi_list (pe_call d_parts_read.ok (hr.mono (by omega)) (by rfl) d_parts_read.g d_parts_read.kp d_parts_read.b .nil pass0 (pa_cons (pv 0) pa_nil))) (blkOk_by (own := [("reading", 2)]) (N := ["text", "found", "reading"]) (sc := defScope sReadE) (by decide +kernel)) (fun _ _ _ _ _ => (pg_name (i := 2) scRE.nd rfl (Or.inl rfl))) (fun _ _ _ _ _ => pts_nil) (fun _ _ _ _ _ => (pe_meth0 (pv 2) R.cl m_read_step.mt m_read_step.ok (hr.mono (by omega)) m_read_step.b .nil pass0))) pa_nil)))
      (pss_cons (ps_if (pt_cmpR op_ne (pe_call d_show_edit.ok (hr.mono (by omega)) (by rfl) d_show_edit.g d_show_edit.kp d_show_edit.b .nil pass0 (pa_cons (pv 1) pa_nil)) (pv 0) (nomark _))
        (pss_one ps_never)
        pss_nil)
      (pss_one (ps_ret (pv 1))))), ?_⟩
    refine ⟨.str (eT e), rfl, eT e, e.map Stp.t, rfl, eT_parts ok rd h30, by rw [List.length_map]; omega, fun x hx => ?_, fun H1 D0 ts s1 hD0 hRd hf hw => ?_⟩
    · obtain ⟨z, hz, rfl⟩ := List.mem_map.mp hx
      have := Stp.tlen (ok z hz)
      omega
    · have lts : ts.length = e.length := by
        have := congrArg List.length hw
        rwa [List.length_map, List.length_map, List.length_map] at this
      obtain ⟨hr1, hnd⟩ := hRd
      refine ⟨D0, rfl, ⟨_, SqL.of hD0⟩, fun D nD => ?_⟩
      have hnone : ∀ {D : Addr}, H1 D = none → H D = none := fun h => none_of s1 h
      refine lc_list (K := K) (a := D0) (xs := ts.map rdV) (fun i H2 => Same H H2 ∧ H2 D0 = some (.lst (ts.map rdV)) ∧ (∀ x ∈ ts.drop i, RdAt C H2 x.1 x.2.1 x.2.2) ∧ ∃ ys : List V, H2 D = some (.lst ys) ∧ TVs K H2 ys ((e.take i).map Stp.d))
        ⟨s1.trans (same_new nD), (same_new nD) _ _ hD0, fun x hx => (hr1 x hx).same (same_new nD), [], upd_same, .nil⟩ (fun i H2 _ hP => SqL.of hP.2.1) (fun i x H2 hx hP => ?_) (fun H2 hP => ?_)
      · obtain ⟨sm, hD0', hrd, ys, hD, hys⟩ := hP
        obtain ⟨y, hy, rfl⟩ := at_map hx
        have hil : i < ts.length := (List.getElem?_eq_some_iff.mp hy).1
        have hle : i < e.length := by omega
        have hze : e[i]? = some e[i] := List.getElem?_eq_getElem hle
        have ze := List.getElem_mem hle
        have hyd : ts.drop i = y :: ts.drop (i + 1) := by
          have e1 := List.drop_eq_getElem_cons hil
          rw [(List.getElem?_eq_some_iff.mp hy).2] at e1
          exact e1
        have hW : y.2.2 = (e[i]).W := by
          have h1 : (ts.map fun x => x.2.2)[i]? = some y.2.2 := by
            rw [List.getElem?_map, hy]
            rfl
          rw [hw, List.getElem?_map, List.getElem?_map, hze] at h1
          have h2 : bl (e[i]).t = y.2.2 := Option.some.inj h1
          rw [← h2]
          exact Stp.pz (rd _ ze) (by rw [← len_cs]; omega)
        have RD := hrd y (by rw [hyd]; exact List.mem_cons_self ..)
        rw [hW] at RD
        have yD : y.2.1 ≠ D := fun z => by
          have h1 := (hr1 y (List.mem_of_getElem? hy)).l
          rw [z, nD] at h1
          cases h1
        have yD0 := (hf y (List.mem_of_getElem? hy)).2
        refine ⟨rfl, .ref y.1, rfl, y.1, RD.dx, _, rfl, RD.i, rf_no _ _ (by decide +kernel) (by decide +kernel), y.1, y.2.1, e[i], rfl, RD, by have h1 := (e[i]).W_len; have h2 := Stp.tlen (ok _ ze); omega, rd _ ze, fun H3 a o3 tv => ?_⟩
        have hD3 := o3 _ _ yD.symm hD
        have tk3 : TK H2 H3 := off_tk RD.l o3
        have lys : ys.length = i := by
          rw [hys.length, List.length_map, List.length_take]
          omega
        have tkD : TK H3 (upd H3 D (.lst (ys ++ [.ref a]))) := tk_lst (TK.refl _) hD3
        have Dne : D0 ≠ D := fun z => by
          rw [z, nD] at hD0
          cases hD0
        refine ⟨_, hD3, ?_, ?_, ?_, fun x hx => ?_, ys ++ [.ref a], upd_same, ?_⟩
        · exact Nat.lt_of_lt_of_le (by omega : ys.length < 1001) (big_le (n := 1001) (by decide))
        · refine same_put (fun b o h => o3 b o (fun z => ?_) (sm b o h)) (hnone nD)
          rw [z, (hf y (List.mem_of_getElem? hy)).1] at h
          cases h
        · rw [upd_ne Dne]
          exact o3 _ _ yD0.symm hD0'
        · have hx2 : x ∈ ts.drop i := by
            rw [hyd]
            exact List.mem_cons_of_mem _ hx
          obtain ⟨dx, t, h1, h2⟩ := hrd x hx2
          have xts : x ∈ ts := List.mem_of_mem_drop hx2
          have xne : x.2.1 ≠ y.2.1 := by
            have h3 : ((ts.drop i).map fun x => x.2.1).Nodup := by
              rw [List.map_drop]
              exact hnd.sublist (List.drop_sublist _ _)
            rw [hyd, List.map_cons] at h3
            exact fun z => (List.nodup_cons.mp h3).1 (z ▸ List.mem_map.mpr ⟨x, hx, rfl⟩)
          have xD : x.2.1 ≠ D := fun z => by
            have h3 := (hr1 x xts).l
            rw [z, nD] at h3
            cases h3
          refine ⟨dx, t, ?_, ?_⟩
          · have h3 := o3 _ _ (ne_of h1 RD.l (by intro z; cases z)) h1
            rw [upd_ne (ne_of h3 hD3 (by intro z; cases z))]
            exact h3
          · rw [upd_ne xD]
            exact o3 _ _ xne h2
        · rw [take_lab hze]
          exact ((hys.tk tk3).tk tkD).app (.cons (tv.tk tkD) .nil)
      · obtain ⟨sm, _, _, ys, hD, hys⟩ := hP
        rw [List.length_map, lts, List.take_length] at hys
        have lys : ys.length = e.length := by
          rw [hys.length, List.length_map]
        refine ⟨D, ys, rfl, .inl ⟨SqL.of hD, fun t nt => ?_⟩⟩
        have st := same_new (o := .tup ys) nt
        have TV1 : TV K (upd H2 t (.tup ys)) (.ref t) (.tuple (e.map Stp.d)) := .tup (SqT.of upd_same) (hys.tk (tk_same st))
        refine ⟨.ref t, rfl, .ref t, e, rfl, TV1, h30, ok, fun H3 s3 => ⟨.str (eT e), rfl, rfl, _, rfl, iteNS rfl ?_⟩⟩
        exact ⟨.ref t, rfl, q _ t (sm.trans (st.trans s3)) (TV1.tk (tk_same s3))⟩
end
end M91

set_option Elab.async false
set_option linter.all false
set_option maxRecDepth 100000
set_option maxHeartbeats 4000000
/-! deed_key -/
namespace M91
open PySem PySem.Spec PyProof.Rows L2 GL TL
theorem scDK : FnScope ["deed", "file", "owner", "path", "part"] ["deed"] (defScope sKey) := ⟨rfl, rfl, rfl, by decide +kernel, rfl, by decide +kernel, by decide +kernel⟩
def Lab.k : Lab → PyData
  | .w x => .tuple [.int 1, .int 0, .str x]
  | .n k => .tuple [.int 0, .int k, .str ""]
def Dd.k : Dd → PyData
  | .set s _ => .tuple [.str "set", .str s.f, .str s.o, .tuple (s.p.map Lab.k)]
  | .gone s => .tuple [.str "gone", .str s.f, .str s.o, .tuple (s.p.map Lab.k)]
  | .order f n _ => .tuple [.str "order", .str f, .str n, .tuple []]
def Dd.short : Dd → Prop
  | .set s _ => s.p.length ≤ 60
  | .gone s => s.p.length ≤ 60
  | .order _ _ _ => True
section
variable {P : Program} {w : World} {K : PySem.W.Frag} {mg : Str → Option Value} {base : Heap} {C : Addr}
def spKey (K : PySem.W.Frag) : Sp := fun vs H Q _ => ∃ (v : V) (x : Dd), vs = [v] ∧ TV K H v x.d ∧ x.short ∧ ∀ H' a, Same H H' → H a = none → (∃ o, H' a = some o) → TV K H' (.ref a) x.k → Q (.ref a) H'
theorem ok_key {f : Addr} {fd : FuncData} (F : Fun K "deed_key" "deed_key" sKey f fd) (T : Bl K mg) : FnOk P w K mg base CX0 1 f fd ["deed"] (spKey K) := by
  refine F.ok scDK (fun vs H Q E h => ?_) (fun cdv A outer s H vs Q E hr h => ?_)
  · obtain ⟨v, x, rfl, _⟩ := h
    rfl
  · obtain ⟨v, x, rfl, tv, ok, q⟩ := h
    refine ⟨_, (pss_cons (ps_if (pt_cmpR op_eq (pe_ix (r := rIxT K) ix_tup (pv 0) pe_int (fun _ _ => rfl)) (pe_glob (v := .str "order") (by rfl) T.corder.choose_spec ⟨_, rfl⟩) (nomark _))
        (pss_one (ps_ret (pe_tup (pa_cons (pe_ix (r := rIxT K) ix_tup (pv 0) pe_int (fun _ _ => rfl)) (pa_cons (pe_ix (r := rIxT K) ix_tup (pv 0) pe_int (fun _ _ => rfl)) (pa_cons (pe_ix (r := rIxT K) ix_tup (pv 0) pe_int (fun _ _ => rfl)) (pa_cons (pe_tup pa_nil) pa_nil)))))))
        pss_nil)
      (pss_cons (ps_asg (pe_ix (r := rIxT K) ix_tup (pv 0) pe_int (fun _ _ => rfl)) (pg_tup rfl (pgs_cons (pg_name (i := 1) scDK.nd rfl (Or.inl rfl)) (pgs_cons (pg_name (i := 2) scDK.nd rfl (Or.inl rfl)) (pgs_cons (pg_name (i := 3) scDK.nd rfl (Or.inl rfl)) pgs_nil)))))
      (pss_one (ps_ret (pe_tup (pa_cons (pe_ix (r := rIxT K) ix_tup (pv 0) pe_int (fun _ _ => rfl)) (pa_cons (pv 1) (pa_cons (pv 2) (pa_cons (pe_callTy call_tuple_of (by rfl) T.tuple (by decide +kernel) (pa_cons (pe_lc (own := [("part", 4)]) (g := gName 4) (by rfl) scDK.nd (pi_tup (pv 3)) (blkOk_by (own := [("part", 4)]) (N := ["deed", "file", "owner", "path", "part"]) (sc := defScope sKey) (by decide +kernel)) (fun _ _ _ _ _ => (pg_name (i := 4) scDK.nd rfl (Or.inl rfl))) (fun _ _ _ _ _ => pts_nil) (fun _ _ _ _ _ => (pe_ifExp (pt_val (pe_callB (r := rIsi K) call_isi (by rfl) T.isinstance (by decide +kernel) (pa_cons (pv 4) (pa_cons (pe_bltn (v := .ty "str") (by rfl) T.str (by decide +kernel) rfl) pa_nil)))) (pe_tup (pa_cons pe_int (pa_cons pe_int (pa_cons (pv 4) pa_nil)))) (pe_tup (pa_cons pe_int (pa_cons (pv 4) (pa_cons pe_str pa_nil))))))) pa_nil)) pa_nil))))))))), ?_⟩
    cases x with
    | set p l =>
      have h60 : p.p.length ≤ 60 := ok
      obtain ⟨a, xs, rfl, hT, ts⟩ := tv.ofTup
      obtain ⟨u1, u2, u3, rfl, t1, t2, t3⟩ := ts.of3
      obtain rfl := t1.ofStr
      obtain ⟨b, zs, rfl, hB, tb⟩ := t2.ofTup
      obtain ⟨w1, w2, w3, rfl, b1, b2, b3⟩ := tb.of3
      obtain rfl := b1.ofStr
      obtain rfl := b2.ofStr
      obtain ⟨c, cs3, rfl, hC, tc⟩ := b3.ofTup
      obtain rfl := tc.labs
      refine ⟨.ref a, rfl, a, _, 0, .str "set", rfl, rfl, hT, rfl, rfl, _, rfl, iteF ?_⟩
      refine ⟨.ref a, rfl, a, _, 1, .ref b, rfl, rfl, hT, rfl, b, _, rfl, hB, rfl, _, _, rfl, _, _, rfl, _, _, rfl, rfl, ?_⟩
      dsimp only
      refine ⟨.ref a, rfl, a, _, 0, .str "set", rfl, rfl, hT, rfl, .str p.f, rfl, .str p.o, rfl, .ref c, rfl, c, rfl, ⟨_, hC⟩, fun D nD => ?_⟩
      refine lc_tup (K := K) (a := c) (xs := p.p.map Lab.v) (fun i H2 => Same H H2 ∧ ∃ ys, H2 D = some (.lst ys) ∧ TVs K H2 ys ((p.p.take i).map Lab.k)) ⟨same_new nD, [], upd_same, .nil⟩ (fun i H2 _ hP => SqT.tk (tk_same hP.1) hC) (fun i x H2 hx hP => ?_) (fun H2 hP => ?_)
      · obtain ⟨sm, ys, hD, hys⟩ := hP
        obtain ⟨l, hl, rfl⟩ := lab_at hx
        have hi := (List.getElem?_eq_some_iff.mp hl).1
        have ly : ys.length = i := by
          rw [hys.length, List.length_map, List.length_take]
          omega
        have fin : ∀ (H3 : Hp) (t : Addr), Same H2 H3 → TV K H3 (.ref t) l.k → ∃ acc, H3 D = some (.lst acc) ∧ acc.length < sizeLine ∧ (Same H (upd H3 D (.lst (acc ++ [.ref t]))) ∧ ∃ ys, upd H3 D (.lst (acc ++ [.ref t])) D = some (.lst ys) ∧ TVs K (upd H3 D (.lst (acc ++ [.ref t]))) ys ((p.p.take (i + 1)).map Lab.k)) := fun H3 t s3 tt => by
          have tkD : TK H3 (upd H3 D (.lst (ys ++ [.ref t]))) := tk_lst (TK.refl _) (s3 _ _ hD)
          refine ⟨ys, s3 _ _ hD, ?_, same_put (sm.trans s3) nD, ys ++ [.ref t], upd_same, ?_⟩
          · exact Nat.lt_of_lt_of_le (by omega : ys.length < 1001) (big_le (n := 1001) (by decide))
          · rw [take_lab hl]
            exact ((hys.tk (tk_same s3)).tk tkD).app (.cons (tt.tk tkD) .nil)
        cases l with
        | w x =>
          refine ⟨rfl, .str x, rfl, .str x, .ty "str", _, _, true, rfl, .ty "str", .base (.str x), kit_ty kSS, true, rfl, iteT ⟨.str x, rfl, by show 3 ≤ sizeLine; decide, fun t nt => ?_⟩⟩
          exact fin _ t (same_new nt) (.tup (SqT.of upd_same) (.cons (.int 1) (.cons (.int 0) (.cons (.str x) .nil))))
        | n k =>
          refine ⟨rfl, .int k, rfl, .int k, .ty "str", _, _, false, rfl, .ty "str", .base (.int k), kit_ty kIS, false, rfl, iteF ⟨.int k, rfl, by show 3 ≤ sizeLine; decide, fun t nt => ?_⟩⟩
          exact fin _ t (same_new nt) (.tup (SqT.of upd_same) (.cons (.int 0) (.cons (.int k) (.cons (.str "") .nil))))
      · obtain ⟨sm, ys, hD, hys⟩ := hP
        rw [List.length_map, List.take_length] at hys
        refine ⟨D, ys, rfl, .inl ⟨SqL.of hD, fun t nt => ⟨by show 4 ≤ sizeLine; decide, fun z nz => ?_⟩⟩⟩
        have st := same_new (o := .tup ys) nt
        have T1 : TV K (upd H2 t (.tup ys)) (.ref t) (.tuple (p.p.map Lab.k)) := .tup (SqT.of upd_same) (hys.tk (tk_same st))
        have sz := same_new (o := .tup [.str "set", .str p.f, .str p.o, .ref t]) nz
        exact q _ z (sm.trans (st.trans sz)) (none_of (sm.trans st) nz) ⟨_, upd_same⟩ (.tup (SqT.of upd_same) (.cons (.str "set") (.cons (.str p.f) (.cons (.str p.o) (.cons (T1.tk (tk_same sz)) .nil)))))
    | gone p =>
      have h60 : p.p.length ≤ 60 := ok
      obtain ⟨a, xs, rfl, hT, ts⟩ := tv.ofTup
      obtain ⟨u1, u2, rfl, t1, t2⟩ := ts.of2
      obtain rfl := t1.ofStr
      obtain ⟨b, zs, rfl, hB, tb⟩ := t2.ofTup
      obtain ⟨w1, w2, w3, rfl, b1, b2, b3⟩ := tb.of3
      obtain rfl := b1.ofStr
      obtain rfl := b2.ofStr
      obtain ⟨c, cs3, rfl, hC, tc⟩ := b3.ofTup
      obtain rfl := tc.labs
      refine ⟨.ref a, rfl, a, _, 0, .str "gone", rfl, rfl, hT, rfl, rfl, _, rfl, iteF ?_⟩
      refine ⟨.ref a, rfl, a, _, 1, .ref b, rfl, rfl, hT, rfl, b, _, rfl, hB, rfl, _, _, rfl, _, _, rfl, _, _, rfl, rfl, ?_⟩
      dsimp only
      refine ⟨.ref a, rfl, a, _, 0, .str "gone", rfl, rfl, hT, rfl, .str p.f, rfl, .str p.o, rfl, .ref c, rfl, c, rfl, ⟨_, hC⟩, fun D nD => ?_⟩
      refine lc_tup (K := K) (a := c) (xs := p.p.map Lab.v) (fun i H2 => Same H H2 ∧ ∃ ys, H2 D = some (.lst ys) ∧ TVs K H2 ys ((p.p.take i).map Lab.k)) ⟨same_new nD, [], upd_same, .nil⟩ (fun i H2 _ hP => SqT.tk (tk_same hP.1) hC) (fun i x H2 hx hP => ?_) (fun H2 hP => ?_)
      · obtain ⟨sm, ys, hD, hys⟩ := hP
        obtain ⟨l, hl, rfl⟩ := lab_at hx
        have hi := (List.getElem?_eq_some_iff.mp hl).1
        have ly : ys.length = i := by
          rw [hys.length, List.length_map, List.length_take]
          omega
        have fin : ∀ (H3 : Hp) (t : Addr), Same H2 H3 → TV K H3 (.ref t) l.k → ∃ acc, H3 D = some (.lst acc) ∧ acc.length < sizeLine ∧ (Same H (upd H3 D (.lst (acc ++ [.ref t]))) ∧ ∃ ys, upd H3 D (.lst (acc ++ [.ref t])) D = some (.lst ys) ∧ TVs K (upd H3 D (.lst (acc ++ [.ref t]))) ys ((p.p.take (i + 1)).map Lab.k)) := fun H3 t s3 tt => by
          have tkD : TK H3 (upd H3 D (.lst (ys ++ [.ref t]))) := tk_lst (TK.refl _) (s3 _ _ hD)
          refine ⟨ys, s3 _ _ hD, ?_, same_put (sm.trans s3) nD, ys ++ [.ref t], upd_same, ?_⟩
          · exact Nat.lt_of_lt_of_le (by omega : ys.length < 1001) (big_le (n := 1001) (by decide))
          · rw [take_lab hl]
            exact ((hys.tk (tk_same s3)).tk tkD).app (.cons (tt.tk tkD) .nil)
        cases l with
        | w x =>
          refine ⟨rfl, .str x, rfl, .str x, .ty "str", _, _, true, rfl, .ty "str", .base (.str x), kit_ty kSS, true, rfl, iteT ⟨.str x, rfl, by show 3 ≤ sizeLine; decide, fun t nt => ?_⟩⟩
          exact fin _ t (same_new nt) (.tup (SqT.of upd_same) (.cons (.int 1) (.cons (.int 0) (.cons (.str x) .nil))))
        | n k =>
          refine ⟨rfl, .int k, rfl, .int k, .ty "str", _, _, false, rfl, .ty "str", .base (.int k), kit_ty kIS, false, rfl, iteF ⟨.int k, rfl, by show 3 ≤ sizeLine; decide, fun t nt => ?_⟩⟩
          exact fin _ t (same_new nt) (.tup (SqT.of upd_same) (.cons (.int 0) (.cons (.int k) (.cons (.str "") .nil))))
      · obtain ⟨sm, ys, hD, hys⟩ := hP
        rw [List.length_map, List.take_length] at hys
        refine ⟨D, ys, rfl, .inl ⟨SqL.of hD, fun t nt => ⟨by show 4 ≤ sizeLine; decide, fun z nz => ?_⟩⟩⟩
        have st := same_new (o := .tup ys) nt
        have T1 : TV K (upd H2 t (.tup ys)) (.ref t) (.tuple (p.p.map Lab.k)) := .tup (SqT.of upd_same) (hys.tk (tk_same st))
        have sz := same_new (o := .tup [.str "gone", .str p.f, .str p.o, .ref t]) nz
        exact q _ z (sm.trans (st.trans sz)) (none_of (sm.trans st) nz) ⟨_, upd_same⟩ (.tup (SqT.of upd_same) (.cons (.str "gone") (.cons (.str p.f) (.cons (.str p.o) (.cons (T1.tk (tk_same sz)) .nil)))))
    | order x n ks =>
      obtain ⟨a, xs, rfl, hT, ts⟩ := tv.ofTup
      obtain ⟨u1, ys, rfl, t1, ts⟩ := ts.ofCons
      obtain ⟨u2, u3, u4, rfl, t2, t3, t4⟩ := ts.of3
      obtain rfl := t1.ofStr
      obtain rfl := t2.ofStr
      obtain rfl := t3.ofStr
      refine ⟨.ref a, rfl, a, _, 0, .str "order", rfl, rfl, hT, rfl, rfl, _, rfl, iteT ?_⟩
      refine ⟨.ref a, rfl, a, _, 0, .str "order", rfl, rfl, hT, rfl, .ref a, rfl, a, _, 1, .str x, rfl, rfl, hT, rfl, .ref a, rfl, a, _, 2, .str n, rfl, rfl, hT, rfl, by show 0 ≤ sizeLine; decide, fun t nt => ⟨by show 4 ≤ sizeLine; decide, fun z nz => ?_⟩⟩
      have st := same_new (o := .tup []) nt
      have sz := same_new (o := .tup [.str "order", .str x, .str n, .ref t]) nz
      have T1 : TV K (upd H t (.tup [])) (.ref t) (.tuple []) := .tup (SqT.of upd_same) .nil
      exact q _ z (st.trans sz) (none_of st nz) ⟨_, upd_same⟩ (.tup (SqT.of upd_same) (.cons (.str "order") (.cons (.str x) (.cons (.str n) (.cons (T1.tk (tk_same sz)) .nil)))))
end
end M91

set_option Elab.async false
set_option linter.all false
set_option maxRecDepth 100000
set_option maxHeartbeats 4000000
/-! sorted(..) of nested tuples of ints and texts, of which each two can be compared up to the first place that differs -/
namespace M91
open PySem PySem.Spec PyProof.Rows L2 GL PySem.SeqAt PySem.W
/-! ### the data -/
mutual
/-- ints, texts, tuples -/
def tdat : PyData → Bool
  | .int _ => true
  | .str _ => true
  | .tuple xs => tdats xs
  | _ => false
def tdats : List PyData → Bool
  | [] => true
  | x :: xs => tdat x && tdats xs
end
theorem tdats_cons {x : PyData} {xs : List PyData} (h : tdats (x :: xs) = true) : tdat x = true ∧ tdats xs = true := by
  rw [tdats, Bool.and_eq_true] at h
  exact h
mutual
/-- up to the first place that differs all can be compared -/
def akin : PyData → PyData → Bool
  | .int _, .int _ => true
  | .str _, .str _ => true
  | .tuple xs, .tuple ys => akins xs ys
  | _, _ => false
def akins : List PyData → List PyData → Bool
  | x :: xs, y :: ys => if PyData.eqv x y = true then akins xs ys else akin x y
  | [], _ => true
  | _ :: _, [] => true
end
theorem akins_yes {x y : PyData} {xs ys : List PyData} (h : akins (x :: xs) (y :: ys) = true) (e : PyData.eqv x y = true) : akins xs ys = true := by
  rw [akins, if_pos e] at h
  exact h
theorem akins_no {x y : PyData} {xs ys : List PyData} (h : akins (x :: xs) (y :: ys) = true) (e : PyData.eqv x y = false) : akin x y = true := by
  rw [akins, if_neg (by rw [e]; exact Bool.false_ne_true)] at h
  exact h
mutual
theorem tdat_eqv : ∀ {x y : PyData}, tdat x = true → tdat y = true → PyData.eqv x y = true → x = y
  | .int a, .int b, _, _, e => by
    have : a = b := by simpa [PyData.eqv] using e
    rw [this]
  | .str a, .str b, _, _, e => by
    have : a = b := by simpa [PyData.eqv] using e
    rw [this]
  | .tuple a, .tuple b, hx, hy, e => by
    rw [tdat] at hx hy
    rw [PyData.eqv] at e
    rw [tdats_eqv hx hy e]
  | .int _, .str _, _, _, e => by simp [PyData.eqv] at e
  | .int _, .tuple _, _, _, e => by simp [PyData.eqv] at e
  | .str _, .int _, _, _, e => by simp [PyData.eqv] at e
  | .str _, .tuple _, _, _, e => by simp [PyData.eqv] at e
  | .tuple _, .int _, _, _, e => by simp [PyData.eqv] at e
  | .tuple _, .str _, _, _, e => by simp [PyData.eqv] at e
theorem tdats_eqv : ∀ {xs ys : List PyData}, tdats xs = true → tdats ys = true → PyData.eqvAll xs ys = true → xs = ys
  | [], [], _, _, _ => rfl
  | [], _ :: _, _, _, e => by simp [PyData.eqvAll] at e
  | _ :: _, [], _, _, e => by simp [PyData.eqvAll] at e
  | x :: xs, y :: ys, hx, hy, e => by
    rw [eqv_all_cons, Bool.and_eq_true] at e
    rw [tdat_eqv (tdats_cons hx).1 (tdats_cons hy).1 e.1, tdats_eqv (tdats_cons hx).2 (tdats_cons hy).2 e.2]
end
mutual
theorem tdat_lay : ∀ {x : PyData}, tdat x = true → x.plain = true
  | .int _, _ => rfl
  | .str _, _ => rfl
  | .tuple a, h => by
    rw [tdat] at h
    rw [PyData.plain]
    exact tdats_lay h
theorem tdats_lay : ∀ {xs : List PyData}, tdats xs = true → PyData.plainAll xs = true
  | [], _ => rfl
  | x :: xs, h => by
    rw [PyData.plainAll, tdat_lay (tdats_cons h).1, tdats_lay (tdats_cons h).2]
    rfl
end
abbrev lxT := PyProof.Rows.lexLt itemOrd
theorem toks_nil : keyToksAll [] = [.inl 0] := by rw [keyToksAll]
mutual
theorem toks_akin : ∀ {x y : PyData}, tdat x = true → tdat y = true → akin x y = true → PyData.eqv x y = false → ∀ l m, lxT (keyToks x ++ l) (keyToks y ++ m) = lxT (keyToks x) (keyToks y)
  | .int a, .int b, _, _, _, e, l, m => by
    have hne : a ≠ b := fun q => by
      subst q
      simp [PyData.eqv] at e
    simp only [keyToks]
    exact lex_atom (fun q => hne (Sum.inl.inj q)) l m
  | .str a, .str b, _, _, _, e, l, m => by
    have hne : a ≠ b := fun q => by
      subst q
      simp [PyData.eqv] at e
    simp only [keyToks]
    exact lex_atom (fun q => hne (str_of_cps (Sum.inr.inj q))) l m
  | .tuple a, .tuple b, hx, hy, h, e, l, m => by
    rw [tdat] at hx hy
    rw [akin] at h
    rw [PyData.eqv] at e
    simp only [keyToks]
    exact toks_akins hx hy h e l m
  | .int _, .str _, _, _, h, _, _, _ => by simp [akin] at h
  | .int _, .tuple _, _, _, h, _, _, _ => by simp [akin] at h
  | .str _, .int _, _, _, h, _, _, _ => by simp [akin] at h
  | .str _, .tuple _, _, _, h, _, _, _ => by simp [akin] at h
  | .tuple _, .int _, _, _, h, _, _, _ => by simp [akin] at h
  | .tuple _, .str _, _, _, h, _, _, _ => by simp [akin] at h
theorem toks_akins : ∀ {xs ys : List PyData}, tdats xs = true → tdats ys = true → akins xs ys = true → PyData.eqvAll xs ys = false → ∀ l m, lxT (keyToksAll xs ++ l) (keyToksAll ys ++ m) = lxT (keyToksAll xs) (keyToksAll ys)
  | [], [], _, _, _, e, _, _ => by simp [PyData.eqvAll] at e
  | [], y :: ys, _, _, _, _, l, m => by
    rw [toks_nil, toks_all_cons]
    exact (lex_atom (by simp) _ _).trans (lex_atom (by simp) _ _).symm
  | x :: xs, [], _, _, _, _, l, m => by
    rw [toks_nil, toks_all_cons]
    exact (lex_atom (by simp) _ _).trans (lex_atom (by simp) _ _).symm
  | x :: xs, y :: ys, hx, hy, h, e, l, m => by
    rw [eqv_all_cons] at e
    rw [toks_all_cons, toks_all_cons, List.cons_append, List.cons_append, List.append_assoc, List.append_assoc]
    have s1 := lex_self (O := itemOrd) (Sum.inl 1 : Int ⊕ List Nat)
    rw [lxT, s1, s1]
    cases q : PyData.eqv x y with
    | true =>
      rw [q, Bool.true_and] at e
      rw [tdat_eqv (tdats_cons hx).1 (tdats_cons hy).1 q, lex_pre, lex_pre]
      exact toks_akins (tdats_cons hx).2 (tdats_cons hy).2 (akins_yes h q) e l m
    | false =>
      have t := toks_akin (tdats_cons hx).1 (tdats_cons hy).1 (akins_no h q) q
      exact (t _ _).trans (t _ _).symm
end
theorem lx_yes {x y : PyData} {xs ys : List PyData} (hx : tdat x = true) (hy : tdat y = true) (q : PyData.eqv x y = true) : lxT (keyToksAll (x :: xs)) (keyToksAll (y :: ys)) = lxT (keyToksAll xs) (keyToksAll ys) := by
  rw [toks_all_cons, toks_all_cons, tdat_eqv hx hy q, lxT, lex_self (O := itemOrd), lex_pre]
theorem lx_no {x y : PyData} {xs ys : List PyData} (hx : tdat x = true) (hy : tdat y = true) (h : akin x y = true) (q : PyData.eqv x y = false) : lxT (keyToksAll (x :: xs)) (keyToksAll (y :: ys)) = dataLt x y := by
  rw [toks_all_cons, toks_all_cons, lxT, lex_self (O := itemOrd)]
  exact toks_akin hx hy h q _ _
/-! ### tuple < tuple, place by place -/
section
variable {A : Around} {s : Shared}
/-- asked only at the first place that differs -/
theorem tupLtSeq (l b : Addr) (items items2 : Array Value) (n n2 : Nat) (dd dd2 : Option Addr) (sl sl2 : Array (Option Value)) (e r : Nat → Bool) :
    Meets (Builtin.«tuple.__lt__» ⟨[.ref l, .ref b], []⟩) (fun A R s => s.heap.get? l = some ⟨.type "tuple", dd, .seq items n, sl⟩ ∧ s.heap.get? b = some ⟨.type "tuple", dd2, .seq items2 n2, sl2⟩ ∧
      (∀ j (h1 : j < items.size) (h2 : j < items2.size), EqAt A.in1 s items[j] items2[j] (e j)) ∧
      (∀ j (h1 : j < items.size) (h2 : j < items2.size), (∀ i, i < j → e i = true) → e j = false → RcLt A.in1 s items[j] items2[j] (r j)) ∧
      R (.ok (.ret (.bool (firstLt e r (decide (items.size < items2.size)) (List.range (min items.size items2.size)))))) s) := by
  refine .of_wp fun prog w A R s h => ?_
  obtain ⟨hp, g, d, tk, os⟩ := s
  obtain ⟨hl, hb, he, hr, h⟩ := h
  have sub := AutoSeq1.sub_tuple_tuple
  have zl : (items.toList.zip items2.toList).length = min items.size items2.size := by simp
  wp_walk using AutoSeq1.wpAny_loadPart' hl, AutoSeq1.wpAny_loadPart' hb, wpAny_forIn_list _ (fun rest c s' => c.1 = none ∧ s' = ⟨hp, g, d, tk, os⟩ ∧ ∃ i, (∀ k, k < i → e k = true) ∧ rest = (items.toList.zip items2.toList).drop i ∧
    R (.ok (.ret (.bool (firstLt e r (decide (items.size < items2.size)) ((List.range (min items.size items2.size)).drop i))))) ⟨hp, g, d, tk, os⟩) _
  case turn =>
    rintro ⟨y, x⟩ rest c s' ⟨hc, rfl, i, hi, hz, hR⟩
    by_cases lt : i < (items.toList.zip items2.toList).length
    · have lm : i < min items.size items2.size := zl ▸ lt
      have l1 := Nat.lt_of_lt_of_le lm (Nat.min_le_left _ _)
      have l2 := Nat.lt_of_lt_of_le lm (Nat.min_le_right _ _)
      rw [List.drop_eq_getElem_cons lt] at hz
      obtain ⟨p1, p2⟩ := List.cons.inj hz
      obtain rfl : y = items[i] := by simpa using congrArg Prod.fst p1
      obtain rfl : x = items2[i] := by simpa using congrArg Prod.snd p1
      have rd : (List.range (min items.size items2.size)).drop i = i :: (List.range (min items.size items2.size)).drop (i + 1) := by
        simp [List.drop_eq_getElem_cons, lm]
      rw [rd] at hR
      refine wpAny_bind (he i l1 l2 prog w _ _ ?_)
      cases q : e i with
      | true =>
        rw [firstLt_yes q] at hR
        wp_walk
        refine ⟨rfl, rfl, i + 1, fun k hk => ?_, p2, hR⟩
        rcases Nat.lt_succ_iff_lt_or_eq.mp hk with hk | rfl
        · exact hi k hk
        · exact q
      | false =>
        rw [firstLt_no q] at hR
        have hrc := hr i l1 l2 hi q prog w
        generalize richCompare .Lt items[i] items2[i] = rc at hrc ⊢
        wp_walk
        refine hrc _ _ ?_
        wp_walk
        exact ⟨_, rfl, hR⟩
    · rw [List.drop_of_length_le (Nat.le_of_not_lt lt)] at hz
      cases hz
  case fin =>
    rintro ⟨c1, c2⟩ s' ⟨hc, rfl, i, _, hz, hR⟩
    simp only at hc
    subst hc
    have ge : min items.size items2.size ≤ i := by
      by_cases lt : i < (items.toList.zip items2.toList).length
      · rw [List.drop_eq_getElem_cons lt] at hz
        cases hz
      · rw [← zl]
        exact Nat.le_of_not_lt lt
    rw [List.drop_of_length_le (by simpa using ge)] at hR
    wp_walk
    exact ⟨_, rfl, by simpa [Builtin.Tuple.tupleCompareSizes, firstLt] using hR⟩
  case h => exact ⟨rfl, rfl, 0, fun k hk => absurd hk (Nat.not_lt_zero k), rfl, by simpa using h⟩
theorem rcLtSeq {l b : Addr} {items items2 : Array Value} {e r : Nat → Bool} {k : Bool} (hl : s.heap.IsTuple l items) (hb : s.heap.IsTuple b items2) (hu : A.units < cLine) (he : ∀ j (h1 : j < items.size) (h2 : j < items2.size), EqAt A.in1 s items[j] items2[j] (e j))
    (hr : ∀ j (h1 : j < items.size) (h2 : j < items2.size), (∀ i, i < j → e i = true) → e j = false → RcLt A.in1 s items[j] items2[j] (r j)) (hk : firstLt e r (decide (items.size < items2.size)) (List.range (min items.size items2.size)) = k) : RcLt A s (.ref l) (.ref b) k := fun prog w E Q h => by
  subst hk
  obtain ⟨⟨cl, dd, da, sl⟩, ho, hc, n, hd⟩ := id hl
  obtain ⟨⟨cl2, dd2, da2, sl2⟩, ho2, hc2, n2, hd2⟩ := id hb
  simp only at hc hd hc2 hd2
  subst hc hd hc2 hd2
  refine richCompare_meets_room (op := .Lt) ⟨_, ho, rfl⟩ ⟨_, ho2, rfl⟩ F.slot_tuple_lt F.entry_tuple_lt (F.args_tuple_lt_2 _ _) (tupLtSeq l b items items2 n n2 dd dd2 sl sl2 e r) ⟨ho, ho2, he, hr, ?_⟩ hu
  exact (show Value.bool _ ≠ Value.notImplemented ∧ Q (.bool _) s from ⟨(fun x => nomatch x), h⟩)
end
/-- the first place that differs, as the rows of signs say it -/
theorem first_toks : ∀ {xs ys : List PyData}, tdats xs = true → tdats ys = true → akins xs ys = true →
    firstLt (pairEq xs ys) (fun j => dataLt (xs.getD j .none) (ys.getD j .none)) (decide (xs.length < ys.length)) (List.range (min xs.length ys.length)) = lxT (keyToksAll xs) (keyToksAll ys)
  | [], [], _, _, _ => by simp [firstLt, lex_irrefl]
  | [], y :: ys, _, _, _ => by
    rw [toks_all_cons, toks_nil, lxT, lex_diff (O := itemOrd) (by simp)]
    simp [firstLt, itemLt]
  | x :: xs, [], _, _, _ => by
    rw [toks_all_cons, toks_nil, lxT, lex_diff (O := itemOrd) (by simp)]
    simp [firstLt, itemLt]
  | x :: xs, y :: ys, hx, hy, h => by
    have e1 : min (x :: xs).length (y :: ys).length = min xs.length ys.length + 1 := by simp only [List.length_cons]; omega
    have e2 : decide ((x :: xs).length < (y :: ys).length) = decide (xs.length < ys.length) := by simp
    rw [e1, e2, List.range_succ_eq_map]
    cases q : PyData.eqv x y with
    | true =>
      rw [firstLt_yes (show pairEq (x :: xs) (y :: ys) 0 = true from q), firstLt_map, lx_yes (tdats_cons hx).1 (tdats_cons hy).1 q]
      exact first_toks (tdats_cons hx).2 (tdats_cons hy).2 (akins_yes h q)
    | false =>
      rw [firstLt_no (show pairEq (x :: xs) (y :: ys) 0 = false from q), lx_no (tdats_cons hx).1 (tdats_cons hy).1 (akins_no h q) q]
      rfl
mutual
/-- a < b -/
theorem rcAkin : ∀ (da db : PyData) (A : Around) (s : Shared) (a b : Value) (as bs : List Addr), Reads s.heap a da as → Reads s.heap b db bs → tdat da = true → tdat db = true → akin da db = true → A.units + min da.depth db.depth < cLine → RcLt A s a b (dataLt da db)
  | .int x, db, A, s, _, _, _, _, ra, rb, _, _, h, _ => by
    cases db with
    | int y =>
      cases ra
      cases rb
      intro prog w E Q hq
      rw [dataLt_int] at hq
      exact P.lt_int hq
    | _ => simp [akin] at h
  | .str x, db, A, s, _, _, _, _, ra, rb, _, _, h, _ => by
    cases db with
    | str y =>
      cases ra
      cases rb
      intro prog w E Q hq
      rw [dataLt_str] at hq
      exact P.lt_str hq
    | _ => simp [akin] at h
  | .tuple xs, db, A, s, _, _, _, _, ra, rb, ha, hb, h, hu => by
    cases db with
    | tuple ys =>
      rw [tdat] at ha hb
      rw [akin] at h
      cases ra with
      | @tuple l o vs n _ as₁ h1 h2 h3 h4 =>
        cases rb with
        | @tuple l' o' vs' n' _ bs₁ k1 k2 k3 k4 =>
          have n1 : vs.size = xs.length := by simpa using ReadsAll.length _ _ _ h4
          have n2 : vs'.size = ys.length := by simpa using ReadsAll.length _ _ _ k4
          refine rcLtSeq (e := pairEq xs ys) (r := fun j => dataLt (xs.getD j .none) (ys.getD j .none)) ⟨_, h1, h2, _, h3⟩ ⟨_, k1, k2, _, k3⟩ (room_here hu) (fun j j1 j2 => ?_) (fun j j1 j2 hi hj => ?_) (by rw [n1, n2, dataLt_tuple]; exact first_toks ha hb h)
          · have q := eqAt_plainAll xs ys A.in1 s vs.toList vs'.toList _ _ h4 k4 (tdats_lay ha) (tdats_lay hb) (room_in hu) j (by simpa using j1) (by simpa using j2)
            simpa using q
          · have q := rcAkins xs ys A.in1 s vs.toList vs'.toList _ _ h4 k4 ha hb h (room_in hu) j (by simpa using j1) (by simpa using j2) hi hj
            simpa using q
    | _ => simp [akin] at h
  | .none, _, _, _, _, _, _, _, _, _, ha, _, _, _ => by simp [tdat] at ha
  | .bool _, _, _, _, _, _, _, _, _, _, ha, _, _, _ => by simp [tdat] at ha
  | .list _, _, _, _, _, _, _, _, _, _, ha, _, _, _ => by simp [tdat] at ha
  | .dict _, _, _, _, _, _, _, _, _, _, ha, _, _, _ => by simp [tdat] at ha
theorem rcAkins : ∀ (xs ys : List PyData) (A : Around) (s : Shared) (vs ws : List Value) (as bs : List Addr), ReadsAll s.heap vs xs as → ReadsAll s.heap ws ys bs → tdats xs = true → tdats ys = true → akins xs ys = true → A.units + min (PyData.depthAll xs) (PyData.depthAll ys) < cLine →
    ∀ j (h1 : j < vs.length) (h2 : j < ws.length), (∀ i, i < j → pairEq xs ys i = true) → pairEq xs ys j = false → RcLt A s vs[j] ws[j] (dataLt (xs.getD j .none) (ys.getD j .none))
  | [], _, _, _, _, _, _, _, ra, _, _, _, _, _, j, h1, _, _, _ => by
    cases ra
    exact absurd h1 (Nat.not_lt_zero _)
  | _ :: _, [], _, _, _, _, _, _, _, rb, _, _, _, _, j, _, h2, _, _ => by
    cases rb
    exact absurd h2 (Nat.not_lt_zero _)
  | x :: xs, y :: ys, A, s, _, _, _, _, ra, rb, ha, hb, h, hu, j, h1, h2, hi, hj => by
    cases ra with
    | cons r rs =>
      cases rb with
      | cons r' rs' =>
        cases j with
        | zero => exact rcAkin x y A s _ _ _ _ r r' (tdats_cons ha).1 (tdats_cons hb).1 (akins_no h hj) (room_head hu)
        | succ j => exact rcAkins xs ys A s _ _ _ _ rs rs' (tdats_cons ha).2 (tdats_cons hb).2 (akins_yes h (hi 0 (Nat.succ_pos j))) (room_tail hu) j (Nat.lt_of_succ_lt_succ h1) (Nat.lt_of_succ_lt_succ h2) (fun i hk => hi (i + 1) (Nat.succ_lt_succ hk)) hj
end
/-! ### as sorting compares -/
section
variable {prog : Program} {w : World} {A : Around} {E : Value → Shared → Prop} {s : Shared}
theorem oneAkin {f : Bool} {da db : PyData} {a b : Value} {as bs : List Addr} {Q : Bool → Shared → Prop} (hf : f = true → ∃ z, da = .str z) (ra : Reads s.heap a da as) (rb : Reads s.heap b db bs) (ha : tdat da = true) (hb : tdat db = true) (h : akin da db = true)
    (hu : A.units + min da.depth db.depth < cLine) (hq : Q (dataLt da db) s) : wpAny (model prog w) A (oneLt' f a b) Q E s := by
  cases f with
  | false =>
    rw [oneLt'_eq]
    simp only [Bool.false_eq_true, if_false]
    exact wpAny_bind (rcAkin da db A s a b as bs ra rb ha hb h hu prog w E _ (wpAny_truthy_bool hq))
  | true =>
    obtain ⟨z, rfl⟩ := hf rfl
    cases db with
    | str y =>
      cases ra
      cases rb
      rw [dataLt_str] at hq
      exact oneLt_str hq
    | _ => simp [akin] at h
theorem katAkin {b fin : Bool} {Q : Bool → Shared → Prop} : ∀ (xs ys : List PyData) (i : Nat) (vs ws : List Value) (as bs : List Addr), ReadsAll s.heap vs xs as → ReadsAll s.heap ws ys bs → tdats xs = true → tdats ys = true → akins xs ys = true →
    A.units + min (PyData.depthAll xs) (PyData.depthAll ys) < cLine → (i = 0 → ∀ x r, xs = x :: r → ∃ z, x = .str z) → fin = decide (xs.length < ys.length) → Q (lxT (keyToksAll xs) (keyToksAll ys)) s → KatLex prog w A b fin Q (vs.zip ws) i s
  | [], [], i, _, _, _, _, ra, rb, _, _, _, _, _, hf, hq => by
    cases ra
    cases rb
    subst hf
    rw [lxT, lex_irrefl] at hq
    exact kat_nil hq
  | [], y :: ys, i, _, _, _, _, ra, rb, _, _, _, _, _, hf, hq => by
    cases ra
    subst hf
    rw [toks_all_cons, toks_nil, lxT, lex_diff (O := itemOrd) (by simp)] at hq
    rw [List.zip_nil_left]
    exact kat_nil (by simpa [itemLt] using hq)
  | x :: xs, [], i, _, _, _, _, ra, rb, _, _, _, _, _, hf, hq => by
    cases rb
    subst hf
    rw [toks_all_cons, toks_nil, lxT, lex_diff (O := itemOrd) (by simp)] at hq
    rw [List.zip_nil_right]
    exact kat_nil (by simpa [itemLt] using hq)
  | x :: xs, y :: ys, i, _, _, _, _, ra, rb, ha, hb, h, hu, hz, hf, hq => by
    have hf' : fin = decide (xs.length < ys.length) := by
      rw [hf]
      simp
    cases ra with
    | cons r rs =>
      cases rb with
      | cons r' rs' =>
        rw [List.zip_cons_cons]
        refine kat_cons (eqAt_plain x y A s _ _ _ _ r r' (tdat_lay (tdats_cons ha).1) (tdat_lay (tdats_cons hb).1) (room_head hu) prog w _ _ ?_)
        cases q : PyData.eqv x y with
        | true =>
          rw [lx_yes (tdats_cons ha).1 (tdats_cons hb).1 q] at hq
          exact kat_yes (katAkin xs ys (i + 1) _ _ _ _ rs rs' (tdats_cons ha).2 (tdats_cons hb).2 (akins_yes h q) (room_tail hu) (fun hi => absurd hi (Nat.succ_ne_zero i)) hf' hq)
        | false =>
          rw [lx_no (tdats_cons ha).1 (tdats_cons hb).1 (akins_no h q) q] at hq
          refine kat_no (oneAkin (fun hbi => ?_) r r' (tdats_cons ha).1 (tdats_cons hb).1 (akins_no h q) (room_head hu) hq)
          rw [Bool.and_eq_true] at hbi
          exact hz (by simpa using hbi.2) x xs rfl
end
end M91

set_option Elab.async false
set_option linter.all false
set_option maxRecDepth 100000
set_option maxHeartbeats 4000000
/-! sorted(..) of lists and of a dict's values -/
namespace M91
open PySem PySem.Spec PyProof.Rows L2 GL PySem.SeqAt PySem.W
/-! ### sorted of whatever is collected -/
section
variable {prog : Program} {w : World} {A : Around} {E : Value → Shared → Prop} {s : Shared}
theorem sorted_by {arg : Value} {vs : List Value} {ltv : Value → Value → Bool} {Q : Value → Shared → Prop} (O : SrtO.Swo ltv) (hz : vs.length ≤ sizeLine)
    (hcol : ∀ (R : List Value → Shared → Prop) (E' : Value → Shared → Prop), (∀ (h' : Heap) (tk : Nat), (∀ b o, s.heap.get? b = some o → h'.get? b = some o) → s.heap.objs.size < h'.objs.size → R vs { s with heap := h', toks := tk }) → wpAny (model prog w) A.in1 (collect arg) R E' s)
    (hS : ∀ (h₁ : Heap) (tk : Nat) (a : Addr), h₁.get? a = some (seqObj "list" vs.toArray 0) → (∀ b o, s.heap.get? b = some o → b ≠ a ∧ h₁.get? b = some o) → 2 ≤ vs.length → SrtO.SortableO prog w A.in1.in1 { s with heap := h₁, toks := tk } a vs ltv)
    (h : ∀ (out : List Value) (h' : Heap) (tk : Nat) (d : Addr), SrtO.Srtd ltv out → SrtO.Stb ltv out vs → (∀ b o, s.heap.get? b = some o → h'.get? b = some o) → s.heap.objs.size ≤ d → (∃ n, h'.get? d = some (seqObj "list" out.toArray n)) → Q (.ref d) { s with heap := h', toks := tk }) :
    wpAny (model prog w) A (call (.builtin "sorted") [arg]) Q E s := by
  refine Calls.call_function_entry kind_sorted plain_sorted entry_sorted (args_sorted1 _) ?_
  unfold Builtin.«sorted»
  refine wpAny_bind (m := checkCount "sorted" 1 1 _) (wpAny_pure (wpAny_bind (hcol _ _ fun h' tk kp up => wpAny_bind (wpAny_newList ?_ hz))))
  have at1 : (h'.push (seqObj "list" vs.toArray 0)).get? h'.objs.size = some (seqObj "list" vs.toArray 0) := Heap.get?_push_size _ rfl
  have old1 : ∀ b o, s.heap.get? b = some o → b ≠ h'.objs.size ∧ (h'.push (seqObj "list" vs.toArray 0)).get? b = some o := fun b o e => ⟨Nat.ne_of_lt (Nat.lt_trans (Heap.lt_size e) up), Heap.get?_push_of_some _ (kp b o e)⟩
  show wpAny _ _ _ _ _ { s with heap := h'.push (seqObj "list" vs.toArray 0), toks := tk }
  refine wpAny_bind (wpAny_holding (wpAny_call_entry slot_list_sort ⟨_, at1, rfl⟩ entry_list_sort (SrtO.list_sort_ord O at1 hz (hS _ _ _ at1 old1) fun out hs hb => ⟨_, rfl, ?_⟩) (args_list_sort _)))
  refine wpAny_pure ⟨_, rfl, h out _ tk h'.objs.size hs hb (fun b o e => ?_) (Nat.le_of_lt up) (sortedHeap_at at1)⟩
  obtain ⟨n1, e1⟩ := old1 b o e
  exact (sortedHeap_old n1 (Heap.lt_size e1)).trans e1
/-- collect of a dict's view -/
theorem collect_src {T : String} {r d : Addr} {n : Nat} {P : Nat → Value → Prop} {OK : Heap → Prop} {R : List Value → Shared → Prop} (K : KdlSrc prog w T r d n P OK) (hh : A.handled = none) (hok : OK s.heap) (hn : n ≤ sizeLine)
    (hR : ∀ (h' : Heap) (tk : Nat) (acc : Array Value), (∀ b o, s.heap.get? b = some o → h'.get? b = some o) → s.heap.objs.size < h'.objs.size → ItemsOf P acc n → R acc.toList { s with heap := h', toks := tk }) : wpAny (model prog w) A (collect (.ref r)) R E s := by
  unfold collect
  refine wpAny_bind (wpAny_runValue (codeAny_builtin F.entry_proto_collect ?_))
  rw [Around.under_plainId F.plain_proto_collect _]
  show wpAny _ A.in1 (newList [] >>= fun l => again (.builtin "list.__iadd__" ⟨[l, .ref r], []⟩)) _ _ s
  refine wpAny_bind (wpAny_newObj_type (wpAny_pure ⟨plainId_quiet F.plain_list_iadd _, codeAny_builtin F.entry_list_iadd ?_⟩))
  rw [Around.under_plainId F.plain_list_iadd _]
  have here : (s.heap.push { cls := .type "list", data := .seq ([] : List Value).toArray }).get? s.heap.objs.size = some { cls := .type "list", data := .seq #[] 0 } := Heap.get?_push_size _ rfl
  have lt := K.there _ hok
  show wpAny _ A.in1 (Builtin.List.listExtendWith (.ref s.heap.objs.size) (.ref r) (.ref s.heap.objs.size)) _ _ _
  refine wpAny_mono (kdl_extend (A := A) (R := fun rr s' => rr = .ok (.ret (.ref s.heap.objs.size)) ∧ ∃ (h' : Heap) (tk : Nat) (acc : Array Value) (c' : Nat), s' = { s with heap := h', toks := tk } ∧ (∀ b o, s.heap.get? b = some o → h'.get? b = some o) ∧
      h'.get? s.heap.objs.size = some { cls := .type "list", dict := none, data := .seq acc c', slots := #[] } ∧ ItemsOf P acc n)
    (s := { s with heap := s.heap.push { cls := .type "list", data := .seq ([] : List Value).toArray } }) K hh (K.keep _ _ hok fun b _ o e => Heap.get?_push_of_some _ e) _ (Nat.ne_of_gt lt.1) (Nat.ne_of_gt lt.2) _ 0 here
    (fun h' tk acc c' kp e hi => ⟨rfl, h', tk, acc, c', rfl, fun b o q => kp b o (Nat.ne_of_lt (Heap.lt_size q)) (Heap.get?_push_of_some _ q), e, hi⟩) hn) (fun fin s' q => ?_) (fun e s' q => absurd q.1 (by simp))
  have go : ∀ {rr : Result} {s' : Shared}, (rr = .ok (.ret (.ref s.heap.objs.size)) ∧ ∃ (h' : Heap) (tk : Nat) (acc : Array Value) (c' : Nat), s' = { s with heap := h', toks := tk } ∧ (∀ b o, s.heap.get? b = some o → h'.get? b = some o) ∧
      h'.get? s.heap.objs.size = some { cls := .type "list", dict := none, data := .seq acc c', slots := #[] } ∧ ItemsOf P acc n) → wpAny (model prog w) A (load s.heap.objs.size >>= fun o => match o.data with | .seq xs _ => pure xs.toList | _ => unsupported "internal:collect") R E s' := by
    rintro rr s' ⟨_, h', tk, acc, c', rfl, kp, e, hi⟩
    exact wpAny_bind (wpAny_load e (wpAny_pure (hR h' tk acc kp (Heap.lt_size e) hi)))
  cases fin with
  | done f =>
    obtain ⟨e, h', tk, acc, c', rfl, kp, hS', hi⟩ := q
    cases e
    show wpAny _ A (load s.heap.objs.size >>= _) _ _ _
    exact wpAny_bind (wpAny_load hS' (wpAny_pure (hR h' tk acc kp (Heap.lt_size hS') hi)))
  | again c' =>
    refine ⟨q.1, codeAny_mono q.2 fun rr s'' z => ?_⟩
    obtain ⟨rfl, h', tk, acc, c', rfl, kp, hS', hi⟩ := z
    show wpAny _ A (load s.heap.objs.size >>= _) _ _ _
    exact wpAny_bind (wpAny_load hS' (wpAny_pure (hR h' tk acc kp (Heap.lt_size hS') hi)))
/-- d.values(), by the entries -/
theorem raw_values {r d : Addr} {es : Array DictEntry} {ep : Nat} : KdlSrc prog w "dict_values" r d es.size (fun i v => ∃ hi : i < es.size, v = es[i].val) (fun h => h.IsValuesView r d ∧ h.DictRaw d es ep) where
  type := fun _ m => m.1.typeIs
  there := fun _ m => by
    obtain ⟨⟨o, ho, _⟩, ⟨o', ho', _⟩⟩ := m
    exact ⟨Heap.lt_size ho, Heap.lt_size ho'⟩
  keep := fun _ _ m k => by
    obtain ⟨⟨o, ho, x⟩, y⟩ := m
    exact ⟨⟨o, k r (.inl rfl) o ho, x⟩, y.at fun o e => k d (.inr rfl) o e⟩
  notList := by decide
  notTuple := by decide
  hint := fun _ _ _ _ m hq => kdl_hint_values m.1.typeIs hq
  iter := fun _ s hh m => by
    refine ⟨_, _, fun _ _ hq => wpAny_pyIter_values_raw m.1 m.2 hq, Walks.rawValues hh _ d (Nat.ne_of_lt ?_) es ep, ⟨⟨_, Heap.get?_push_size _ rfl, rfl, rfl⟩, m.2.at fun o e => Heap.get?_push_of_some _ e⟩⟩
    obtain ⟨o', ho', _⟩ := m.2
    exact Heap.lt_size ho'
end
/-! ### the values, by what they read as -/
def dtv (dt : Addr → PyData) : Value → PyData
  | .ref a => dt a
  | _ => .none
abbrev ltA (dt : Addr → PyData) (a b : Addr) : Bool := lxT (keyToks (dt a)) (keyToks (dt b))
abbrev ltW (dt : Addr → PyData) (a b : Value) : Bool := lxT (keyToks (dtv dt a)) (keyToks (dtv dt b))
theorem swo_toks {α : Type} (k : α → List (Int ⊕ List Nat)) : SrtO.Swo fun x y => lxT (k x) (k y) := by
  refine ⟨fun x y h => ?_, fun x y z h1 h2 => ?_⟩
  · cases e : lxT (k y) (k x) with
    | false => rfl
    | true =>
      have := lex_trans (O := itemOrd) _ _ _ h e
      rw [lex_irrefl] at this
      cases this
  · cases e : lxT (k z) (k x) with
    | false => rfl
    | true =>
      rcases lex_negTrans (O := itemOrd) _ (k y) _ e with q | q
      · rw [lxT] at h2
        rw [h2] at q
        cases q
      · rw [lxT] at h1
        rw [h1] at q
        cases q
structure GoodD (K : PySem.W.Frag) (H : Hp) (dt : Addr → PyData) (as : List Addr) : Prop where
  tv : ∀ a ∈ as, TV K H (.ref a) (dt a)
  td : ∀ a ∈ as, tdat (dt a) = true
  dp : ∀ a ∈ as, (dt a).depth ≤ 60
  st : ∀ a ∈ as, ∃ z r, dt a = .tuple (.str z :: r)
  ak : ∀ a ∈ as, ∀ b ∈ as, akin (dt a) (dt b) = true
mutual
theorem reads_but {h h' : Heap} {a : Addr} (k : ∀ b o, b ≠ a → h.get? b = some o → h'.get? b = some o) (ha : ∀ o, h.get? a = some o → o.cls ≠ .type "tuple") : ∀ (d : PyData) (v : Value) (as : List Addr), tdat d = true → Reads h v d as → Reads h' v d as
  | .int _, _, _, _, r => by
    cases r
    exact Reads.int _ _
  | .str _, _, _, _, r => by
    cases r
    exact Reads.str _ _
  | .tuple xs, _, _, hd, r => by
    rw [tdat] at hd
    cases r with
    | tuple h1 h2 h3 h4 =>
      refine Reads.tuple (k _ _ (fun z => ?_) h1) h2 h3 (readsAll_but k ha xs _ _ hd h4)
      subst z
      exact ha _ h1 h2
  | .none, _, _, hd, _ => by simp [tdat] at hd
  | .bool _, _, _, hd, _ => by simp [tdat] at hd
  | .list _, _, _, hd, _ => by simp [tdat] at hd
  | .dict _, _, _, hd, _ => by simp [tdat] at hd
theorem readsAll_but {h h' : Heap} {a : Addr} (k : ∀ b o, b ≠ a → h.get? b = some o → h'.get? b = some o) (ha : ∀ o, h.get? a = some o → o.cls ≠ .type "tuple") : ∀ (ds : List PyData) (vs : List Value) (as : List Addr), tdats ds = true → ReadsAll h vs ds as → ReadsAll h' vs ds as
  | [], _, _, _, r => by
    cases r
    exact ReadsAll.nil
  | d :: ds, _, _, hd, r => by
    cases r with
    | cons h1 h2 => exact ReadsAll.cons (reads_but k ha d _ _ (tdats_cons hd).1 h1) (readsAll_but k ha ds _ _ (tdats_cons hd).2 h2)
end
theorem each_of {α β : Type} {R : α → β → Prop} {f : α → β} : ∀ {l : List α}, (∀ a ∈ l, R a (f a)) → EachIs R l (l.map f)
  | [], _ => .nil
  | a :: l, h => .cons (h a (List.mem_cons_self ..)) (each_of fun b hb => h b (List.mem_cons_of_mem _ hb))
section
variable {prog : Program} {w : World} {A : Around} {s : Shared}
theorem sortable_td {dt : Addr → PyData} {as : List Addr} {a : Addr} (hr : ∀ x ∈ as, ∃ bs, Reads s.heap (.ref x) (dt x) bs) (td : ∀ a ∈ as, tdat (dt a) = true) (dp : ∀ a ∈ as, A.units + (dt a).depth < cLine) (st : ∀ a ∈ as, ∃ z r, dt a = .tuple (.str z :: r))
    (ak : ∀ a ∈ as, ∀ b ∈ as, akin (dt a) (dt b) = true) (ha : ∀ o, s.heap.get? a = some o → o.cls ≠ .type "tuple") (h2 : 2 ≤ as.length) : SrtO.SortableO prog w A s a (as.map Value.ref) (ltW dt) := by
  intro h' kp
  have hr' : ∀ x ∈ as, ∃ bs, Reads h' (.ref x) (dt x) bs := fun x hx => by
    obtain ⟨bs, r⟩ := hr x hx
    exact ⟨bs, reads_but kp ha _ _ _ (td x hx) r⟩
  refine ⟨tuples' true, fun Q E hq => ?_, fun p q hp hq => ?_⟩
  · have each : EachIs (fun v d => ∃ bs, Reads h' v d bs) (as.map Value.ref) ((as.map Value.ref).map (dtv dt)) := each_of fun v hv => by
      obtain ⟨x, hx, rfl⟩ := List.mem_map.mp hv
      exact hr' x hx
    obtain ⟨fs, t1, t2, t3⟩ := each_katTups each fun d hd => by
      obtain ⟨v, hv, rfl⟩ := List.mem_map.mp hd
      obtain ⟨x, hx, rfl⟩ := List.mem_map.mp hv
      obtain ⟨z, r, e⟩ := st x hx
      exact ⟨_, _, e⟩
    refine kat_kind (T := .type "str") t1 (by rw [t2, List.length_map]; omega) (fun f hf => ?_) (by rfl) ?_
    · obtain ⟨x, r, bs, m1, m2⟩ := t3 f hf
      obtain ⟨v, hv, e⟩ := List.mem_map.mp m1
      obtain ⟨y, hy, rfl⟩ := List.mem_map.mp hv
      obtain ⟨z, r2, e2⟩ := st y hy
      have e3 : dt y = .tuple (x :: r) := e
      rw [e2] at e3
      injection e3 with e3
      obtain ⟨rfl, _⟩ := List.cons.inj e3
      exact looks_reads m2
    · have e : (Value.type "str" != Value.type "tuple") = true := by first | decide +kernel | rfl
      rw [e]
      exact hq
  · obtain ⟨x, hx, ex⟩ := List.mem_map.mp hp
    obtain ⟨y, hy, ey⟩ := List.mem_map.mp hq
    show wpAny (model prog w) A (keyLt' (tuples' true) p.1 q.1) (fun r s' => s' = _ ∧ r = ltW dt p.1 q.1) (fun _ _ => False) _
    rw [← ex, ← ey]
    obtain ⟨bs, rx⟩ := hr' x hx
    obtain ⟨cs, ry⟩ := hr' y hy
    obtain ⟨z, r, e1⟩ := st x hx
    obtain ⟨z2, r2, e2⟩ := st y hy
    have hak := ak x hx y hy
    have tx := td x hx
    have ty := td y hy
    have dx := dp x hx
    show wpAny (model prog w) A (keyLt' (tuples' true) _ _) (fun r s' => s' = _ ∧ r = lxT (keyToks (dt x)) (keyToks (dt y))) (fun _ _ => False) _
    rw [e1] at rx hak tx dx ⊢
    rw [e2] at ry hak ty ⊢
    rw [akin] at hak
    rw [tdat] at tx ty
    cases rx with
    | @tuple l o vs n _ as₁ h1 h2 h3 h4 =>
      cases ry with
      | @tuple l' o' vs' n' _ bs₁ k1 k2 k3 k4 =>
        have n1 : vs.size = (PyData.str z :: r).length := by simpa using ReadsAll.length _ _ _ h4
        have n2 : vs'.size = (PyData.str z2 :: r2).length := by simpa using ReadsAll.length _ _ _ k4
        have hroom : A.units + min (PyData.depthAll (.str z :: r)) (PyData.depthAll (.str z2 :: r2)) < cLine := by
          have : (PyData.tuple (.str z :: r)).depth = PyData.depthAll (.str z :: r) + 1 := by rw [PyData.depth]
          have := Nat.min_le_left (PyData.depthAll (.str z :: r)) (PyData.depthAll (.str z2 :: r2))
          omega
        refine kat_lt h1 h3 k1 k3 (katAkin _ _ 0 _ _ _ _ h4 k4 tx ty hak hroom (fun _ x' r' e => ⟨z, ?_⟩) (by rw [n1, n2]) ⟨rfl, ?_⟩)
        · exact (List.cons.inj e).1.symm
        · simp only [keyToks]
end
/-! ### the rules -/
section
variable {X : Cx} {pins : List (Addr × Obj)} {σ : L2.St} {H : Hp} {s : Shared}
theorem GoodD.sortable {dt : Addr → PyData} {as : List Addr} (I : Inv X pins σ H s) (hu : X.A.units + 64 < cLine) (G : GoodD X.K H dt as) (h₁ : Heap) (tk : Nat) (a : Addr) (at1 : h₁.get? a = some (seqObj "list" (as.map Value.ref).toArray 0))
    (old : ∀ b o, s.heap.get? b = some o → b ≠ a ∧ h₁.get? b = some o) (h2 : 2 ≤ (as.map Value.ref).length) : SrtO.SortableO X.prog X.w X.A.in1.in1 { s with heap := h₁, toks := tk } a (as.map Value.ref) (ltW dt) := by
  refine sortable_td (s := { s with heap := h₁, toks := tk }) (fun x hx => ?_) G.td (fun x hx => ?_) G.st G.ak (fun o e => ?_) (by rwa [List.length_map] at h2)
  · obtain ⟨bs, r, _⟩ := DV.reads I (TV.dv (G.tv x hx)) rfl
    exact ⟨bs, Reads.keeps (fun b o e => (old b o e).2) r⟩
  · have := G.dp x hx
    simp only [Around.in1_units]
    omega
  · have e' : some o = some (seqObj "list" (as.map Value.ref).toArray 0) := e.symm.trans at1
    cases e'
    intro c
    exact absurd (Value.type.inj c) (by decide)
theorem refs_as : ∀ {as : List Addr} {us : List Value}, Vals (as.map V.ref) us → us = as.map Value.ref
  | [], _, .nil => rfl
  | a :: as, _, .cons p t => by
    obtain rfl := p
    rw [refs_as t]
    rfl
theorem as_refs : ∀ (as : List Addr), Vals (as.map V.ref) (as.map Value.ref)
  | [] => .nil
  | a :: as => .cons rfl (as_refs as)
/-- what sorted leaves -/
theorem sorted_end {dt : Addr → PyData} {as : List Addr} {Q : VK} (I : Inv X pins σ H s) (hz : as.length ≤ sizeLine) (q : ∀ ys p, SrtO.Srtd (ltA dt) ys → ys.Perm as → H p = none → Q (.ref p) (upd H p (.lst (ys.map V.ref))))
    (out : List Value) (h' : Heap) (tk : Nat) (d : Addr) (hs : SrtO.Srtd (ltW dt) out) (hb : SrtO.Stb (ltW dt) out (as.map Value.ref)) (kp : ∀ b o, s.heap.get? b = some o → h'.get? b = some o) (hd : s.heap.objs.size ≤ d) (hn : ∃ n, h'.get? d = some (seqObj "list" out.toArray n)) :
    EP X pins σ Q (.ref d) { s with heap := h', toks := tk } := by
  obtain ⟨ys, rfl⟩ : ∃ ys : List Addr, out = ys.map Value.ref := by
    have : ∀ (l : List Value), (∀ v ∈ l, ∃ a, v = Value.ref a) → ∃ ys : List Addr, l = ys.map Value.ref := by
      intro l
      induction l with
      | nil => exact fun _ => ⟨[], rfl⟩
      | cons v l ih =>
        intro h
        obtain ⟨a, rfl⟩ := h v (List.mem_cons_self ..)
        obtain ⟨ys, rfl⟩ := ih fun u hu => h u (List.mem_cons_of_mem _ hu)
        exact ⟨a :: ys, rfl⟩
    refine this out fun v hv => ?_
    obtain ⟨a, _, rfl⟩ := List.mem_map.mp (hb.perm.mem_iff.mp hv)
    exact ⟨a, rfl⟩
  have pm : ys.Perm as := by
    have h1 := hb.perm.map (fun v => match v with | .ref a => a | _ => 0)
    rw [List.map_map, List.map_map] at h1
    have e : ∀ l : List Addr, l.map ((fun v => match v with | Value.ref a => a | _ => 0) ∘ Value.ref) = l := fun l => by
      show l.map (fun a => a) = l
      simp
    rw [e, e] at h1
    exact h1
  obtain ⟨n, hn⟩ := hn
  refine ⟨.ref d, upd H d (.lst (ys.map V.ref)), I.laid (t' := tk) kp hd ⟨?_, ys.map Value.ref, n, as_refs ys, hn⟩, rfl, q ys d (List.pairwise_map.mp hs) pm (I.hok.fresh hd)⟩
  rw [List.length_map, pm.length_eq]
  exact hz
/-- sorted(l) -/
def rSortD (K : PySem.W.Frag) : List V → Hp → VK → Prop := fun vs H Q => ∃ (a : Addr) (as : List Addr) (dt : Addr → PyData), vs = [.ref a] ∧ SqL K H a (as.map V.ref) ∧ GoodD K H dt as ∧ ∀ ys p, SrtO.Srtd (ltA dt) ys → ys.Perm as → H p = none → Q (.ref p) (upd H p (.lst (ys.map V.ref)))
theorem cr_sortD (hu : X.A.units + 64 < cLine) : CallR X (.builtin "sorted") (rSortD X.K) := by
  intro pins s σ H vs us Q I r h
  obtain ⟨a, as, dt, rfl, hs, G, q⟩ := h
  obtain ⟨its, rv, hl, hz⟩ := I.list hs
  obtain rfl := refs_as rv
  obtain ⟨u, rfl, ru⟩ := vals1 r
  obtain rfl : u = Value.ref a := ru
  rw [List.length_map] at hz
  refine sorted_by (ltv := ltW dt) (swo_toks fun v => keyToks (dtv dt v)) (by rw [List.length_map]; exact hz) (fun R E' k => ?_) (fun h₁ tk a at1 old h2 => G.sortable I hu h₁ tk a at1 old h2) (fun out h' tk d h1 h2 kp hd hn => sorted_end I hz q out h' tk d h1 h2 kp hd hn)
  refine collect_list hl.isList (k _ s.toks (fun b o e => ?_) ?_) (by rw [List.length_map]; exact hz)
  · rw [Heap.get?_update_ne _ _ _ _ (Nat.ne_of_lt (Heap.lt_size e))]
    exact Heap.get?_push_of_some _ e
  · rw [Heap.size_update, size_push']
    exact Nat.lt_succ_self _
end
end M91

set_option Elab.async false
set_option linter.all false
set_option maxRecDepth 100000
set_option maxHeartbeats 4000000
/-! dicts whose keys are nested tuples: {}, d[k] = v, sorted(d.values()) -/
namespace M91
open PySem PySem.Spec PyProof.Rows L2 GL PySem.SeqAt PySem.W
/-- an entry: the key, where it stands, where the value stands -/
abbrev Ent := NestedKey × Addr × Addr
def Ent.row (e : Ent) : NestedKey × Addr × Value := (e.1, e.2.1, .ref e.2.2)
def ndO (P : Program) (w : World) (d : Addr) (us : List Ent) : HO := .ext fun h => ∃ o es ep, h.get? d = some o ∧ o.ExactDict ∧ o.data = .dict es ep ∧ es.toList = (us.map Ent.row).map (entryOfKey (nestedKind P w))
structure ND (P : Program) (w : World) (K : PySem.W.Frag) (H : Hp) (d : Addr) (us : List Ent) : Prop where
  ob : H d = some (ndO P w d us)
  lo : (d == sysModules) = false
  nd : (us.map (·.1)).Nodup
  ky : ∀ e ∈ us, TV K H (.ref e.2.1) e.1.data ∧ e.1.depth ≤ 8
theorem ndO_ok {P : Program} {w : World} {H : Hp} {h : Heap} {d : Addr} {us : List Ent} (x : ∃ o es ep, h.get? d = some o ∧ o.ExactDict ∧ o.data = .dict es ep ∧ es.toList = (us.map Ent.row).map (entryOfKey (nestedKind P w))) : ObjOk P w H h d (ndO P w d us) := by
  refine ⟨x, ?_, fun h1 h2 y k => ?_⟩
  · obtain ⟨o, _, _, ho, _⟩ := x
    exact ⟨o, ho⟩
  · obtain ⟨o, es, ep, ho, r⟩ := y
    exact ⟨o, es, ep, k o ho, r⟩
section
variable {X : Cx} {pins : List (Addr × Obj)} {σ : L2.St} {H : Hp} {s : Shared}
mutual
theorem nested_of (I : Inv X pins σ H s) : ∀ (k : NestedKey) {v : V} {u : Value}, TV X.K H v k.data → RelV v u → NestedIs s.heap k u
  | .none, _, _, t, r => by
    rw [NestedKey.data] at t
    cases t
    cases r
    exact .none
  | .num i, _, _, t, r => by
    rw [NestedKey.data] at t
    cases t
    obtain ⟨t, rfl⟩ := r
    exact .int i t
  | .text x, _, _, t, r => by
    rw [NestedKey.data] at t
    cases t
    obtain ⟨t, rfl⟩ := r
    exact .text x t
  | .tup ks, _, _, t, r => by
    rw [NestedKey.data] at t
    obtain ⟨a, xs, rfl, h, ts⟩ := t.ofTup
    cases r
    obtain ⟨its, rv, ⟨o, ho, hc, m, hd⟩, _⟩ := I.tuple h
    exact .tup ho hc hd (by simpa using nesteds_of I ks ts rv)
theorem nesteds_of (I : Inv X pins σ H s) : ∀ (ks : List NestedKey) {vs : List V} {us : List Value}, TVs X.K H vs (NestedKey.datas ks) → Vals vs us → NestedAll s.heap ks us
  | [], _, _, t, r => by
    rw [NestedKey.datas] at t
    obtain rfl := t.ofNil
    cases r
    exact .nil
  | k :: ks, _, _, t, r => by
    rw [NestedKey.datas] at t
    obtain ⟨v, rest, rfl, t1, t2⟩ := t.ofCons
    cases r with
    | cons r1 r2 => exact .cons (nested_of I k t1 r1) (nesteds_of I ks t2 r2)
end
theorem ND.dict {d : Addr} {us : List Ent} (I : Inv X pins σ H s) (N : ND X.prog X.w X.K H d us) : s.heap.DictOfH (nestedKind X.prog X.w) d (us.map Ent.row) := by
  obtain ⟨⟨o, es, ep, ho, hx, hd, he⟩, _⟩ := I.hok d _ N.ob
  refine ⟨o, es, ep, ho, hx, hd, he, fun x hx => ?_, ?_⟩
  · obtain ⟨e, hm, rfl⟩ := List.mem_map.mp hx
    exact ⟨nested_of I e.1 (N.ky e hm).1 rfl, (N.ky e hm).2⟩
  · rw [List.map_map]
    exact N.nd
/-- {} -/
def tDNewN (P : Program) (w : World) : TE := fun σ H Q => ∀ d, H d = none → (d == sysModules) = false → Q (.ref d) (upd H d (ndO P w d []))
theorem pe_dnewN {pos : Pos} : PE X (.Dict [] [] pos) (tDNewN X.prog X.w) := ⟨fun pins s σ H Q I h =>
  wpAny_Dict_empty ⟨.ref s.heap.objs.size, _, I.laid (a := s.heap.objs.size) (t' := s.toks) (fun _ _ q => Heap.get?_push_of_some _ q) (Nat.le_refl _) (ndO_ok ⟨_, #[], 0, Heap.get?_push_size _ rfl, ⟨rfl, rfl, rfl⟩, rfl, rfl⟩), rfl,
    h _ (I.hok.fresh (Nat.le_refl _)) (beq_eq_false_iff_ne.mpr (Nat.ne_of_gt I.big))⟩⟩
/-- the entries behind d[k] = v -/
def stU (us : List Ent) (k : NestedKey) (b c : Addr) : List Ent := if us.any (fun e => decide (e.1 = k)) = true then us.map (fun e => if e.1 = k then (e.1, e.2.1, c) else e) else us ++ [(k, b, c)]
theorem row_any (us : List Ent) (k : NestedKey) : (atKey (us.map Ent.row) k).isSome = us.any fun e => decide (e.1 = k) := by
  unfold atKey
  rw [Option.isSome_map]
  induction us with
  | nil => rfl
  | cons e us ih =>
    rw [List.map_cons, List.find?_cons, List.any_cons]
    have : (Ent.row e).1 = e.1 := rfl
    rw [this]
    cases decide (e.1 = k) with
    | true => rfl
    | false => exact ih
theorem row_stored (us : List Ent) (k : NestedKey) (b c : Addr) : storedH (us.map Ent.row) k b (.ref c) = (stU us k b c).map Ent.row := by
  unfold storedH stU
  rw [row_any]
  split
  · rw [List.map_map, List.map_map]
    refine List.map_congr_left fun e _ => ?_
    show putAt k (.ref c) (e.1, e.2.1, .ref e.2.2) = Ent.row (if e.1 = k then (e.1, e.2.1, c) else e)
    unfold putAt
    by_cases h : e.1 = k
    · rw [if_pos h, if_pos h]
      rfl
    · rw [if_neg h, if_neg h]
      rfl
  · rw [List.map_append]
    rfl
theorem stU_mem {us : List Ent} {k : NestedKey} {b c : Addr} {e : Ent} (h : e ∈ stU us k b c) : e ∈ us ∨ (e.1 = k ∧ e.2.2 = c ∧ (e.2.1 = b ∨ ∃ f ∈ us, f.1 = k ∧ f.2.1 = e.2.1)) := by
  unfold stU at h
  split at h
  · obtain ⟨f, hf, rfl⟩ := List.mem_map.mp h
    by_cases q : f.1 = k
    · rw [if_pos q]
      exact .inr ⟨q, rfl, .inr ⟨f, hf, q, rfl⟩⟩
    · rw [if_neg q]
      exact .inl hf
  · rcases List.mem_append.mp h with h | h
    · exact .inl h
    · have : e = (k, b, c) := by simpa using h
      subst this
      exact .inr ⟨rfl, rfl, .inl rfl⟩
theorem stU_len (us : List Ent) (k : NestedKey) (b c : Addr) : (stU us k b c).length ≤ us.length + 1 := by
  unfold stU
  split
  · rw [List.length_map]
    omega
  · rw [List.length_append]
    exact Nat.le_refl _
/-- d[k] = v -/
def rSetN (P : Program) (w : World) (K : PySem.W.Frag) : V → V → V → Hp → (Hp → Prop) → Prop := fun o i v H Q => ∃ (d b c : Addr) (k : NestedKey) (us : List Ent), o = .ref d ∧ i = .ref b ∧ v = .ref c ∧ ND P w K H d us ∧ TV K H (.ref b) k.data ∧ k.depth ≤ 8 ∧ us.length < 1000 ∧
  (ND P w K (upd H d (ndO P w d (stU us k b c))) d (stU us k b c) → Q (upd H d (ndO P w d (stU us k b c))))
theorem tk_nd {P : Program} {w : World} {K : PySem.W.Frag} {d : Addr} {us : List Ent} {u : HO} (N : ND P w K H d us) : TK H (upd H d u) := tk_put (TK.refl H) fun xs => by
  rw [N.ob]
  exact ⟨fun z => (by cases z), fun o z => (by cases z)⟩
theorem set_nd (hu : X.A.units + 64 < cLine) : PSet X (rSetN X.prog X.w X.K) := by
  intro pins s σ H o i v ov iv u Q I ro ri rv h
  obtain ⟨d, b, c, k, us, rfl, rfl, rfl, N, tb, hk, hl, q⟩ := h
  cases ro
  cases ri
  cases rv
  have hz : (us.map Ent.row).length ≤ sizeLine := by
    rw [List.length_map]
    exact Nat.le_trans (Nat.le_of_lt hl) (by decide)
  refine wpAny_setItem_heap (knd := nestedKind X.prog X.w) (k := k) (xs := us.map Ent.row) (show X.A.in1.units + 8 < cLine by simp only [Around.in1_units]; omega) ⟨nested_of I k tb rfl, hk⟩ (N.dict I) (fun h' D sb => ?_) hz
  rw [row_stored] at D
  obtain ⟨o', es, ep, ho', hx, hd, he, _, hn⟩ := D
  have nd' : ND X.prog X.w X.K (upd H d (ndO X.prog X.w d (stU us k b c))) d (stU us k b c) := by
    refine ⟨upd_same, N.lo, ?_, fun e hm => ?_⟩
    · rw [List.map_map] at hn
      exact hn
    · rcases stU_mem hm with h1 | ⟨h1, _, h2 | ⟨f, hf, h3, h4⟩⟩
      · exact ⟨(N.ky e h1).1.tk (tk_nd N), (N.ky e h1).2⟩
      · rw [h1, h2]
        exact ⟨tb.tk (tk_nd N), hk⟩
      · have := N.ky f hf
        rw [h1, ← h4, ← h3]
        exact ⟨this.1.tk (tk_nd N), this.2⟩
  refine ⟨_, I.write (x := d) (e := d) (t' := _) ?_ (.inl rfl) (fun b o ne e => ?_) ⟨_, ho'⟩ (ndO_ok ⟨o', es, ep, ho', hx, hd, he⟩), q nd'⟩
  · rw [N.ob]
    trivial
  · exact (sb.2 b ne).trans e
/-- d.values() -/
def valsO (p d : Addr) : HO := .ext fun h => h.IsValuesView p d
def tVals (P : Program) (w : World) (K : PySem.W.Frag) (to : TE) : TE := fun σ H Q => to σ H fun x H1 => ∃ (d : Addr) (us : List Ent), x = .ref d ∧ ND P w K H1 d us ∧ ∀ p, H1 p = none → Q (.ref p) (upd H1 p (valsO p d))
theorem pe_vals {o : Expr} {to : TE} {apos cpos : Pos} (ho : PE X o to) (hbase : attributeBase o "values" X.env (eval o X.env) = eval o X.env := by rfl) (hline : (apos.endLine == cpos.line) = true := by rfl) :
    PE X (.Call (.Attribute o "values" apos) [] [] cpos) (tVals X.prog X.w X.K to) := by
  refine ⟨fun pins s σ H Q I h => wpAny_Call_method0_late hbase hline (thn (ho.run pins s σ H _ I h) fun v s1 ⟨x, H1, I1, r1, d, us, ex, N, q⟩ => ?_)⟩
  subst ex
  cases r1
  obtain ⟨o', es, ep, ho', hx, hd, _⟩ := N.dict I1
  refine ⟨"dict", "dict.values", F.plainAttrs_dict, F.slot_dict_values, F.type_dict_values, ⟨o', ho', hx.1⟩, fun b e => ?_, Calls.callWith_builtin rfl (PySem.evalArgs_none ?_)⟩
  · cases e
    exact ⟨o', ho', hx.2.1⟩
  · refine call_meetsIn F.slot_dict_values ⟨o', ho', hx.1⟩ F.entry_dict_values (F.args_dict_values_1 _) (meets_dict_values_raw d N.lo) ⟨⟨es, ep, o', ho', hx, hd⟩, ?_⟩
    refine ⟨.ref s1.heap.objs.size, _, I1.laid (o := valsO s1.heap.objs.size d) (t' := s1.toks) (fun _ _ q => Heap.get?_push_of_some _ q) (Nat.le_refl _) ⟨⟨_, Heap.get?_push_size _ rfl, rfl, rfl⟩, ⟨_, Heap.get?_push_size _ rfl⟩, fun h1 h2 y k => ?_⟩, rfl, q _ (I1.hok.fresh (Nat.le_refl _))⟩
    obtain ⟨o2, h2', r⟩ := y
    exact ⟨o2, k o2 h2', r⟩
/-- sorted(d.values()) -/
def rSortV (P : Program) (w : World) (K : PySem.W.Frag) : List V → Hp → VK → Prop := fun vs H Q => ∃ (p d : Addr) (us : List Ent) (dt : Addr → PyData), vs = [.ref p] ∧ H p = some (valsO p d) ∧ ND P w K H d us ∧ us.length < 1000 ∧ GoodD K H dt (us.map fun e => e.2.2) ∧
  ∀ ys q, SrtO.Srtd (ltA dt) ys → ys.Perm (us.map fun e => e.2.2) → H q = none → Q (.ref q) (upd H q (.lst (ys.map V.ref)))
theorem cr_sortV (hc : X.calm = true) (hu : X.A.units + 64 < cLine) : CallR X (.builtin "sorted") (rSortV X.prog X.w X.K) := by
  intro pins s σ H vs us' Q I r h
  obtain ⟨p, d, us, dt, rfl, hp, N, hl, G, q⟩ := h
  obtain ⟨u, rfl, ru⟩ := vals1 r
  obtain rfl : u = Value.ref p := ru
  have view : s.heap.IsValuesView p d := (I.hok p _ hp).1
  obtain ⟨o', es, ep, ho', hx, hd, he, _⟩ := N.dict I
  have raw : s.heap.DictRaw d es ep := ⟨o', ho', hx, hd⟩
  have sz : es.size = us.length := by
    rw [← Array.length_toList, he, List.length_map, List.length_map]
  have hz : (us.map fun e => e.2.2).length ≤ sizeLine := by
    rw [List.length_map]
    exact Nat.le_trans (Nat.le_of_lt hl) (by decide)
  refine sorted_by (vs := (us.map fun e => e.2.2).map Value.ref) (ltv := ltW dt) (swo_toks fun v => keyToks (dtv dt v)) (by rw [List.length_map]; exact hz) (fun R E' k => ?_) (fun h₁ tk a at1 old h2 => G.sortable I hu h₁ tk a at1 old h2) (fun out h' tk d h1 h2 kp hd hn => sorted_end I hz q out h' tk d h1 h2 kp hd hn)
  refine collect_src (raw_values (es := es) (ep := ep)) (show X.A.in1.handled = none from I.ok.hd hc) ⟨view, raw⟩ (by rw [sz, ← List.length_map (f := fun e : Ent => e.2.2)]; exact hz) fun h' tk acc kp up hi => ?_
  have e : acc.toList = (us.map fun e => e.2.2).map Value.ref := by
    apply List.ext_getElem?
    intro i
    rw [Array.getElem?_toList]
    have eat : ∀ j : Nat, es[j]? = (us[j]?).map fun e => (⟨(nestedKind X.prog X.w).hash e.1, .ref e.2.1, .ref e.2.2⟩ : DictEntry) := fun j => by
      rw [← Array.getElem?_toList, he, List.getElem?_map, List.getElem?_map, Option.map_map]
      rfl
    rw [List.getElem?_map, List.getElem?_map]
    by_cases hi2 : i < acc.size
    · have h1 : acc[i]? = some acc[i] := Array.getElem?_eq_getElem hi2
      obtain ⟨h2, h3⟩ := hi.2 i acc[i] h1
      rw [h1, h3]
      have h4 := eat i
      rw [Array.getElem?_eq_getElem h2] at h4
      cases q : us[i]? with
      | none =>
        rw [q] at h4
        cases h4
      | some e =>
        rw [q] at h4
        have h5 : es[i] = _ := Option.some.inj h4
        rw [h5]
        rfl
    · rw [Array.getElem?_eq_none (Nat.le_of_not_lt hi2)]
      have : us.length ≤ i := by
        rw [← sz, ← hi.1]
        exact Nat.le_of_not_lt hi2
      rw [List.getElem?_eq_none this]
      rfl
  rw [e]
  exact k h' tk kp up
end
end M91

set_option Elab.async false
set_option linter.all false
set_option maxRecDepth 100000
set_option maxHeartbeats 4000000
/-! len(set(l)), l a list of nested tuples, no two of them equal, at most eighteen -/
namespace M91
open PySem PySem.Spec PyProof.Rows L2 GL PySem.SeqAt
/-- the value is this key, and not too deep -/
def KeyAt (h : Heap) (p : Addr × NestedKey) : Prop := NestedIs h p.2 (.ref p.1) ∧ p.2.depth ≤ 8
def hsOf (w : World) (L : List (Addr × NestedKey)) : List Int := L.map fun p => p.2.hash w
def rowsN (w : World) (L : List (Addr × NestedKey)) : List (Int × Value) := L.map fun p => (p.2.hash w, Value.ref p.1)
theorem KeyAt.same {h h' : Heap} {p : Addr × NestedKey} {a : Addr} {o : Obj} {es : Array (Int × Value)} {ep : Nat} {t : SetTable} (x : KeyAt h p) (ho : h.get? a = some o) (hd : o.data = .set es ep t) (sb : Heap.SameBut a h h') : KeyAt h' p := by
  refine ⟨NestedIs.at (fun b ob vs n hb hc => (sb.2 b fun e => ?_).trans hb) _ _ x.1, x.2⟩
  subst e
  rw [ho] at hb
  cases hb
  rw [hd] at hc
  cases hc
theorem KeyAt.keep {h h' : Heap} {p : Addr × NestedKey} (x : KeyAt h p) (k : ∀ b o, h.get? b = some o → h'.get? b = some o) : KeyAt h' p := ⟨NestedIs.at (fun b ob vs n hb _ => k b ob hb) _ _ x.1, x.2⟩
section
variable {P : Program} {w : World} {s : Shared}
theorem ofc_at (n : Nat) {v : Value} (h : ∀ a, v ≠ .ref a) : ofAClassStatement n v = pure false := by
  cases v <;> first | exact absurd rfl (h _) | (cases n <;> rfl)
mutual
theorem ofc_key : ∀ (k : NestedKey) (v : Value) (n : Nat), NestedIs s.heap k v → k.depth ≤ n → ∀ (A : Around) (E : Value → Shared → Prop) (Q : Bool → Shared → Prop), Q false s → wpAny (model P w) A (ofAClassStatement n v) Q E s
  | .none, _, n, x, _, A, E, Q, q => by
    cases x
    rw [ofc_at n (by intro a z; cases z)]
    exact wpAny_pure q
  | .num i, _, n, x, _, A, E, Q, q => by
    cases x with
    | int _ t =>
      rw [ofc_at n (by intro a z; cases z)]
      exact wpAny_pure q
    | bool e =>
      rw [ofc_at n (by intro a z; cases z)]
      exact wpAny_pure q
  | .text y, _, n, x, _, A, E, Q, q => by
    cases x
    rw [ofc_at n (by intro a z; cases z)]
    exact wpAny_pure q
  | .tup ks, _, n, x, hn, A, E, Q, q => by
    cases x with
    | @tup b o vs m _ hg hc hd hk =>
      rw [NestedKey.depth] at hn
      cases n with
      | zero => exact absurd hn (Nat.not_succ_le_zero _)
      | succ n =>
        unfold ofAClassStatement
        refine wpAny_bind (wpAny_typeOf ⟨o, hg, hc⟩ ?_)
        dsimp only
        have e : (("tuple" : String) == "tuple") = true := by decide
        simp only [e, if_true, Bool.not_true, Bool.false_eq_true, if_false]
        try refine wpAny_bind (wpAny_pure ?_)
        try simp only [Bool.not_true, Bool.false_eq_true, if_false]
        show wpAny _ _ (seqItems? (.ref b) >>= _) _ _ s
        refine wpAny_bind (wpAny_seqItems hg hd ?_)
        dsimp only
        refine wpAny_bind ?_
        show wpAny _ _ (forIn vs _ _) _ _ s
        rw [← Array.forIn_toList]
        refine wpAny_forIn_list _ (fun rest r s' => r.1 = none ∧ s = s' ∧ ∀ v ∈ rest, v ∈ vs.toList) _ ?_ ?_ _ _ ⟨rfl, rfl, fun v hv => hv⟩
        · rintro v rest r s' ⟨hr, rfl, hall⟩
          refine wpAny_bind (ofc_keys ks vs.toList n hk (by omega) v (hall v List.mem_cons_self) A _ _ ?_)
          simp only [Bool.false_eq_true, if_false]
          exact wpAny_pure ⟨rfl, rfl, fun u hu => hall u (List.mem_cons_of_mem _ hu)⟩
        · rintro ⟨r1, r2⟩ s' ⟨hr, rfl, _⟩
          simp only at hr
          subst hr
          exact wpAny_pure q
theorem ofc_keys : ∀ (ks : List NestedKey) (vs : List Value) (n : Nat), NestedAll s.heap ks vs → NestedKey.depthAll ks ≤ n → ∀ v ∈ vs, ∀ (A : Around) (E : Value → Shared → Prop) (Q : Bool → Shared → Prop), Q false s → wpAny (model P w) A (ofAClassStatement n v) Q E s
  | [], _, n, x, _, v, hv => by
    cases x
    cases hv
  | k :: ks, _, n, x, hn, v, hv => by
    cases x with
    | cons x1 x2 =>
      rw [NestedKey.depthAll] at hn
      rcases List.mem_cons.mp hv with e | hv
      · rw [e]
        exact ofc_key k _ n x1 (by omega)
      · exact ofc_keys ks _ n x2 (by omega) v hv
end
theorem hbv_at (n : Nat) {v : Value} (h : (∃ b, v = .bool b) ∨ (∃ i t, v = .int i t) ∨ (∃ x t, v = .str x t) ∨ v = .none) : ∃ b, hashByValue n v = pure b := by
  rcases h with ⟨b, rfl⟩ | ⟨i, t, rfl⟩ | ⟨x, t, rfl⟩ | rfl
  · exact ⟨true, by cases n <;> rfl⟩
  · exact ⟨true, by cases n <;> rfl⟩
  · exact ⟨false, by cases n <;> rfl⟩
  · exact ⟨true, by cases n <;> rfl⟩
mutual
theorem hbv_key : ∀ (k : NestedKey) (v : Value) (n : Nat), NestedIs s.heap k v → k.depth ≤ n → ∀ (A : Around) (E : Value → Shared → Prop) (Q : Bool → Shared → Prop), (∀ b, Q b s) → wpAny (model P w) A (hashByValue n v) Q E s
  | .none, _, n, x, _, A, E, Q, q => by
    cases x
    obtain ⟨b, e⟩ := hbv_at n (v := .none) (.inr (.inr (.inr rfl)))
    rw [e]
    exact wpAny_pure (q b)
  | .num i, _, n, x, _, A, E, Q, q => by
    cases x with
    | int _ t =>
      obtain ⟨b, e⟩ := hbv_at n (v := .int i t) (.inr (.inl ⟨_, _, rfl⟩))
      rw [e]
      exact wpAny_pure (q b)
    | @bool c _ _ =>
      obtain ⟨b, e⟩ := hbv_at n (v := .bool c) (.inl ⟨_, rfl⟩)
      rw [e]
      exact wpAny_pure (q b)
  | .text y, _, n, x, _, A, E, Q, q => by
    cases x with
    | text _ t =>
      obtain ⟨b, e⟩ := hbv_at n (v := .str y t) (.inr (.inr (.inl ⟨_, _, rfl⟩)))
      rw [e]
      exact wpAny_pure (q b)
  | .tup ks, _, n, x, hn, A, E, Q, q => by
    cases x with
    | @tup b o vs m _ hg hc hd hk =>
      rw [NestedKey.depth] at hn
      cases n with
      | zero => exact absurd hn (Nat.not_succ_le_zero _)
      | succ n =>
        unfold hashByValue
        refine wpAny_bind (wpAny_specialOf ⟨o, hg, hc⟩ F.slot_tuple_hash.lookup ?_)
        show wpAny _ _ (seqItems? (.ref b) >>= _) _ _ s
        refine wpAny_bind (wpAny_seqItems hg hd (wpAny_bind ?_))
        show wpAny _ _ (forIn vs _ _) _ _ s
        rw [← Array.forIn_toList]
        refine wpAny_forIn_list _ (fun rest r s' => r.1 = none ∧ s = s' ∧ ∀ v ∈ rest, v ∈ vs.toList) _ ?_ ?_ _ _ ⟨rfl, rfl, fun v hv => hv⟩
        · rintro v rest r s' ⟨hr, rfl, hall⟩
          refine wpAny_bind (hbv_keys ks vs.toList n hk (by omega) v (hall v List.mem_cons_self) A _ _ fun c => ?_)
          cases c with
          | true =>
            simp only [Bool.not_true, Bool.false_eq_true, if_false]
            exact wpAny_pure ⟨rfl, rfl, fun u hu => hall u (List.mem_cons_of_mem _ hu)⟩
          | false =>
            simp only [Bool.not_false, if_true]
            exact wpAny_pure (wpAny_pure (q false))
        · rintro ⟨r1, r2⟩ s' ⟨hr, rfl, _⟩
          simp only at hr
          subst hr
          exact wpAny_pure (q true)
theorem hbv_keys : ∀ (ks : List NestedKey) (vs : List Value) (n : Nat), NestedAll s.heap ks vs → NestedKey.depthAll ks ≤ n → ∀ v ∈ vs, ∀ (A : Around) (E : Value → Shared → Prop) (Q : Bool → Shared → Prop), (∀ b, Q b s) → wpAny (model P w) A (hashByValue n v) Q E s
  | [], _, n, x, _, v, hv => by
    cases x
    cases hv
  | k :: ks, _, n, x, hn, v, hv => by
    cases x with
    | cons x1 x2 =>
      rw [NestedKey.depthAll] at hn
      rcases List.mem_cons.mp hv with e | hv
      · rw [e]
        exact hbv_key k _ n x1 (by omega)
      · exact hbv_keys ks _ n x2 (by omega) v hv
end
variable {A : Around} {E : Value → Shared → Prop}
theorem seen_keys {p : Addr × NestedKey} (hp : KeyAt s.heap p) {ys : List Value} (hy : ∀ y ∈ ys, ∃ q : Addr × NestedKey, y = .ref q.1 ∧ KeyAt s.heap q) {Q : Bool → Shared → Prop} (q : Q false s) : wpAny (model P w) A (searchCouldBeSeen (.ref p.1) ys) Q E s := by
  unfold searchCouldBeSeen
  refine wpAny_bind (wpAny_forIn_list _ (fun rest r s' => r.1 = none ∧ s' = s ∧ ∀ y ∈ rest, y ∈ ys) _ ?_ ?_ _ _ ⟨rfl, rfl, fun y h => h⟩)
  · rintro v rest r s' ⟨hr, rfl, hall⟩
    obtain ⟨c, rfl, hc⟩ := hy v (hall v List.mem_cons_self)
    have next : ∀ y ∈ rest, y ∈ ys := fun u hu => hall u (List.mem_cons_of_mem _ hu)
    dsimp only
    by_cases hv : (p.1 == c.1 || (carriedByValue (.ref p.1) && carriedByValue (.ref c.1))) = true
    · exact wp_if_pos hv (wpAny_pure ⟨rfl, rfl, next⟩)
    · refine wp_if_neg hv (wpAny_bind (quiet_key p.2 _ 8 _ hp.1 hp.2 _ _ _ ?_))
      simp only [Bool.not_true, Bool.false_eq_true, if_false]
      refine wpAny_bind (quiet_key c.2 _ 8 _ hc.1 hc.2 _ _ _ ?_)
      simp only [Bool.not_true, Bool.false_eq_true, if_false]
      refine wpAny_bind (ofc_key p.2 _ 8 hp.1 hp.2 _ _ _ ?_)
      simp only [Bool.false_eq_true, if_false]
      refine wpAny_bind (ofc_key c.2 _ 8 hc.1 hc.2 _ _ _ ?_)
      simp only [Bool.false_eq_true, if_false]
      exact wpAny_pure ⟨rfl, rfl, next⟩
  · rintro ⟨r1, r2⟩ s' ⟨hr, rfl, _⟩
    simp only at hr
    subst hr
    exact wpAny_pure q
/-! ### the set -/
structure SN (w : World) (h : Heap) (a : Addr) (L : List (Addr × NestedKey)) (es : Array (Int × Value)) (ep : Nat) (t : SetTable) : Prop where
  ob : ∃ o, h.get? a = some o ∧ o.ExactSet ∧ o.data = .set es ep t
  rows : es.toList = rowsN w L
  tab : TabOk t (hsOf w L)
  ky : ∀ p ∈ L, KeyAt h p
  led : w.params.followText "set-order" = true ∨ t.led = true
  room : L.length * 5 < t.mask * 3
variable {a : Addr} {L : List (Addr × NestedKey)} {es : Array (Int × Value)} {ep : Nat} {t : SetTable}
theorem rowsN_len (w : World) (L : List (Addr × NestedKey)) : (rowsN w L).length = L.length := List.length_map ..
theorem hsOf_len (w : World) (L : List (Addr × NestedKey)) : (hsOf w L).length = L.length := List.length_map ..
theorem rows_size (h : es.toList = rowsN w L) : es.size = L.length := by
  rw [← Array.length_toList, h, rowsN_len]
theorem fits_of (h1 : t.place.size = es.size) (h2 : t.dummies = #[]) (h3 : es.size ≤ t.mask) : t.fits es.size = true := by
  unfold SetTable.fits SetTable.fill
  rw [h2, Bool.and_eq_true, beq_iff_eq, decide_eq_true_eq]
  exact ⟨h1, by show t.place.size + 0 ≤ t.mask; omega⟩
theorem SN.fits (R : SN w s.heap a L es ep t) : t.fits es.size = true := by
  have h1 := R.tab.sz
  have h2 := rows_size R.rows
  have h3 := R.room
  rw [hsOf_len] at h1
  exact fits_of (by omega) R.tab.dm (by omega)
theorem rows_at (h : es.toList = rowsN w L) {i : Nat} {p : Addr × NestedKey} (hp : L[i]? = some p) : es[i]? = some (p.2.hash w, Value.ref p.1) := by
  rw [← Array.getElem?_toList, h]
  unfold rowsN
  rw [List.getElem?_map, hp]
  rfl
/-- the c-th step of the way of a hash -/
abbrev stp (m : Nat) (h : Int) (c : Nat) : SetTable.Probe := nth m (runAt m (SetTable.bits h % (m + 1)) (SetTable.bits h)) c
theorem stp_clean (m : Nat) (h : Int) (c : Nat) : (stp m h c).dummy = none := by
  have : ∀ (n : Nat) (p : SetTable.Probe), p.dummy = none → (nth m p n).dummy = none := by
    intro n
    induction n with
    | zero => exact fun p h => h
    | succ n ih =>
      intro p hp
      refine ih (adv m p) ?_
      unfold adv
      split <;> exact hp
  exact this c _ rfl
theorem stp_add (m : Nat) (h : Int) (c q : Nat) : nth m (stp m h c) q = stp m h (c + q) := (nth_add m c _ q).symm
/-- a search for what is not there ends at the first empty place -/
theorem srch (R : SN w s.heap a L es ep t) {x : Addr × NestedKey} (hx : KeyAt s.heap x) (hu : A.units + 8 < cLine) (hno : ∀ p ∈ L, p.2 ≠ x.2) {K : Nat} (hKf : K < 10 * SetTable.turns t.mask) (hK : way t.mask (x.2.hash w) K ∉ t.place.toList)
    (hKb : ∀ c, c < K → way t.mask (x.2.hash w) c ∈ t.place.toList) {Q : SetFound → Shared → Prop} (q : Q (.free (way t.mask (x.2.hash w) K) false) s) :
    ∀ (f c : Nat) (stand : Option SetTable.Probe), stand.getD (t.probeStart (x.2.hash w)) = stp t.mask (x.2.hash w) c → c ≤ K → K - c < f → wpAny (model P w) A (setSearchFrom a (.ref x.1) (x.2.hash w) true f stand) Q E s
  | 0, c, stand, _, _, hf => absurd hf (Nat.not_lt_zero _)
  | f + 1, c, stand, hst, hc, hf => by
    obtain ⟨o, ho, hex, hd⟩ := R.ob
    rw [setSearchFrom_succ]
    refine wpAny_bind (wpAny_setState_of ho hd R.fits ?_)
    dsimp only
    refine wp_if_neg (by unfold SetTable.gaveWay; rw [mask_odd R.tab.mok]; decide) ?_
    try refine wpAny_bind (wpAny_pure ?_)
    have wy : ∀ q, (nth t.mask (stp t.mask (x.2.hash w) c) q).j = way t.mask (x.2.hash w) (c + q) := fun q => congrArg SetTable.Probe.j (stp_add ..)
    have spec := go_spec t R.tab.ris R.tab.dm (fun i => (es[i]?.map (·.1)).getD 0) (x.2.hash w) (10 * SetTable.turns t.mask) (K - c) _ (stp_clean t.mask (x.2.hash w) c) (by omega) (fun q hq => by rw [wy]; exact hKb (c + q) (by omega)) (by rw [wy, show c + (K - c) = K by omega]; exact hK)
    rcases spec with ⟨j, i, hj, hi, _, _, hpr⟩ | ⟨_, hpr⟩
    · have met : t.probe (fun i => (es[i]?.map (·.1)).getD 0) (x.2.hash w) (stand.getD (t.probeStart (x.2.hash w))) = some (.candidate (way t.mask (x.2.hash w) (c + j)) i (stp t.mask (x.2.hash w) (c + (j + 1)))) := by
        rw [hst, ← wy, ← stp_add]
        exact hpr
      rw [met]
      dsimp only
      rw [wy] at hi
      have il : i < L.length := by
        have h1 : i < t.place.toList.length := (List.getElem?_eq_some_iff.mp hi).1
        have h2 := R.tab.sz
        rw [hsOf_len] at h2
        rw [Array.length_toList] at h1
        omega
      have hp : L[i]? = some L[i] := List.getElem?_eq_getElem il
      have pm : L[i] ∈ L := List.getElem_mem il
      have he := rows_at R.rows hp
      have ne := hno _ pm
      have rest : wpAny (model P w) A (searchRest a (.ref x.1) (x.2.hash w) true f es t (way t.mask (x.2.hash w) (c + j)) i (stp t.mask (x.2.hash w) (c + (j + 1)))) Q E s := by
        unfold searchRest
        rw [he]
        dsimp only
        refine wpAny_bind (wpAny_holding ((nestedKind P w).eqBool (show A.units + 8 < cLine from hu) (R.ky _ pm) hx ?_))
        rw [decide_eq_false ne]
        refine wpAny_bind (wpAny_setState_of ho hd R.fits ?_)
        dsimp only
        refine wp_if_neg (by simp) ?_
        try refine wpAny_bind (wpAny_pure ?_)
        rw [sameMem]
        dsimp only
        simp only [if_true, slot_live R.tab.ris hi, he]
        refine wpAny_bind (wpAny_isSame_ref_self (wpAny_bind (wpAny_pure ?_)))
        simp only [if_true]
        refine wp_if_neg (by simp) ?_
        exact srch R hx hu hno hKf hK hKb q f (c + (j + 1)) _ rfl (by omega) (by omega)
      by_cases hl : t.led = true
      · refine wp_if_neg (by simp [hl]) ?_
        try refine wpAny_bind (wpAny_pure ?_)
        exact rest
      · refine wp_if_pos (by simp [hl]) (wpAny_bind (seen_keys hx (fun y hy => ?_) ?_))
        · obtain ⟨e, h1, rfl⟩ := List.mem_map.mp hy
          have h2 : e ∈ es.toList := by
            have h3 : e ∈ es ∧ e.1 = x.2.hash w := by simpa using h1
            simpa using h3.1
          rw [R.rows] at h2
          obtain ⟨p2, h4, rfl⟩ := List.mem_map.mp h2
          exact ⟨p2, rfl, R.ky p2 h4⟩
        · refine wp_if_neg (by decide) ?_
          try refine wpAny_bind (wpAny_pure ?_)
          exact rest
    · have met : t.probe (fun i => (es[i]?.map (·.1)).getD 0) (x.2.hash w) (stand.getD (t.probeStart (x.2.hash w))) = some (.empty (way t.mask (x.2.hash w) K) none) := by
        have e2 := wy (K - c)
        rw [show c + (K - c) = K by omega] at e2
        rw [hst, ← e2]
        exact hpr
      rw [met]
      exact wpAny_pure q
end
end M91

set_option Elab.async false
set_option linter.all false
set_option maxRecDepth 100000
set_option maxHeartbeats 4000000
/-! adding to a set of nested tuples; set(l) -/
namespace M91
open PySem PySem.Spec PyProof.Rows L2 GL PySem.SeqAt
section
variable {P : Program} {w : World} {A : Around} {E : Value → Shared → Prop} {s : Shared} {a : Addr} {L : List (Addr × NestedKey)} {es : Array (Int × Value)} {ep : Nat} {t : SetTable}
/-- the entries in another order -/
theorem reorder (order : Array Nat) (hr : es.toList = rowsN w L) (hp : order.toList.Perm (List.range L.length)) :
    ∃ L2 : List (Addr × NestedKey), (order.filterMap (es[·]?)).toList = rowsN w L2 ∧ L2.Perm L ∧ hsOf w L2 = order.toList.map fun i => (es.map (·.1)).getD i 0 := by
  have step : ∀ l : List Nat, (∀ i ∈ l, i < L.length) → l.filterMap (fun i => es[i]?) = rowsN w (l.filterMap fun i => L[i]?) ∧ hsOf w (l.filterMap fun i => L[i]?) = l.map fun i => (es.map (·.1)).getD i 0 := by
    intro l
    induction l with
    | nil => exact fun _ => ⟨rfl, rfl⟩
    | cons i l ih =>
      intro hl
      have hi : L[i]? = some (L[i]'(hl i List.mem_cons_self)) := List.getElem?_eq_getElem _
      obtain ⟨e1, e2⟩ := ih fun j hj => hl j (List.mem_cons_of_mem _ hj)
      have he := rows_at hr hi
      constructor
      · rw [List.filterMap_cons_some he, List.filterMap_cons_some hi, e1]
        rfl
      · rw [List.filterMap_cons_some hi, List.map_cons, ← e2]
        have e5 : (es.map (·.1))[i]? = some ((L[i]'(hl i List.mem_cons_self)).2.hash w) := by
          rw [Array.getElem?_map, he]
          rfl
        have e4 : (es.map (·.1)).getD i 0 = (L[i]'(hl i List.mem_cons_self)).2.hash w := by simp [Array.getD_eq_getD_getElem?, e5]
        rw [e4]
        rfl
  obtain ⟨e1, e2⟩ := step order.toList fun i hi => List.mem_range.mp (hp.mem_iff.mp hi)
  refine ⟨_, by rw [Array.toList_filterMap]; exact e1, ?_, e2⟩
  have id_ : ∀ n, n ≤ L.length → (List.range n).filterMap (fun i => L[i]?) = L.take n := by
    intro n
    induction n with
    | zero => exact fun _ => rfl
    | succ n ih =>
      intro hn
      rw [List.range_succ, List.filterMap_append, ih (Nat.le_of_lt hn), List.take_succ, List.filterMap_cons_some (List.getElem?_eq_getElem hn), List.getElem?_eq_getElem hn]
      rfl
  have h1 := hp.filterMap fun i => L[i]?
  rw [id_ L.length (Nat.le_refl _), List.take_length] at h1
  exact h1
/-- the table laid anew -/
theorem relayN {o : Obj} (ho : s.heap.get? a = some o) (hex : o.ExactSet) (hd : o.data = .set es ep t) (hr : es.toList = rowsN w L) (hsz : t.place.size = es.size) (hdm : t.dummies = #[]) (hfl : es.size ≤ t.mask) (ky : ∀ p ∈ L, KeyAt s.heap p)
    (ld : w.params.followText "set-order" = true ∨ t.led = true) (h5 : L.length = 5) {Q : Unit → Shared → Prop} (q : ∀ h' L' es' ep' t', Heap.SameBut a s.heap h' → SN w h' a L' es' ep' t' → L'.Perm L → Q () { s with heap := h' }) : wpAny (model P w) A (setRelay a (SetTable.grown 5)) Q E s := by
  have hn := rows_size hr
  obtain ⟨t', order, e, hp, T, em, el, _, _⟩ := relaid_ok t (hs := es.map (·.1)) (wanted := SetTable.grown 5) (M := 31) (by rw [size_20]) (.inr (.inl rfl)) (by rw [Array.size_map, hn, h5]; decide)
  rw [Array.size_map, hn] at hp
  obtain ⟨L2, r1, r2, r3⟩ := reorder (w := w) order hr hp
  rw [← r3] at T
  have n2 : (order.filterMap (es[·]?)).size = es.size := by rw [rows_size r1, r2.length_eq, hn]
  rw [setRelay_eq]
  refine wpAny_bind (wpAny_setState_of ho hd (fits_of hsz hdm hfl) ?_)
  dsimp only
  refine wp_if_neg (by rw [size_20, sizeLine_eq]; decide) ?_
  try refine wpAny_bind (wpAny_pure ?_)
  rw [e]
  dsimp only
  refine wpAny_bind (wp_if_neg (by rw [n2]; simp) ?_)
  try refine wpAny_bind (wpAny_pure ?_)
  refine wpAny_pure ?_
  dsimp only
  refine wpAny_storeSet_of ho hd ?_ (by rw [n2, hn, h5, sizeLine_eq]; decide)
  have sb : Heap.SameBut a s.heap (s.heap.update a (Obj.putSet (order.filterMap (es[·]?)) t')) := Heap.SameBut.update ..
  refine q _ L2 _ (ep + 1) t' sb ⟨⟨_, store_at ho hd, hex, rfl⟩, r1, T, fun p hm => (ky p (r2.mem_iff.mp hm)).same ho hd sb, by rw [el]; exact ld, ?_⟩ r2
  rw [r2.length_eq, em, h5]
  decide
theorem insert_perm {α : Type} (l : List α) (p : Nat) (x : α) : (l.take p ++ x :: l.drop p).Perm (x :: l) := by
  have h := (List.perm_middle (a := x) (l₁ := l.take p) (l₂ := l.drop p))
  rwa [List.take_append_drop] at h
theorem tab_flag {t : SetTable} {hs : List Int} (T : TabOk t hs) (b : Bool) : TabOk (if b = true then t else { t with plain := false }) hs := by
  cases b with
  | true => exact T
  | false => exact ⟨T.ris, T.dm, T.sz, T.mok, T.bd, T.reach⟩
/-- one more -/
theorem addN (R : SN w s.heap a L es ep t) {x : Addr × NestedKey} (hx : KeyAt s.heap x) (hu : A.units + 8 < cLine) (hno : ∀ p ∈ L, p.2 ≠ x.2) (few : L.length < 18) {Q : Bool → Shared → Prop}
    (q : ∀ b h' L' es' ep' t', Heap.SameBut a s.heap h' → SN w h' a L' es' ep' t' → L'.Perm (x :: L) → Q b { s with heap := h' }) : wpAny (model P w) A (setAddHashed a (.ref x.1) (x.2.hash w)) Q E s := by
  obtain ⟨o, ho, hex, hd⟩ := R.ob
  have hn := rows_size R.rows
  have room := R.room
  obtain ⟨K, hKf, hK, hKb⟩ := R.tab.first (by rw [hsOf_len]; omega) (x.2.hash w)
  have hbig : K < 100000 := by
    have : 10 * SetTable.turns t.mask ≤ 1420 := by
      unfold SetTable.turns
      rcases R.tab.mok with e | e | e <;> omega
    omega
  unfold setAddHashed
  refine wpAny_holding ?_
  rw [show (100000 : Nat) = 99999 + 1 from rfl, setAddHashedIn_succ]
  refine wpAny_bind (wpAny_setState_of ho hd R.fits ?_)
  dsimp only
  refine wp_if_neg (by simp [byScan, Value.scannable]) ?_
  try refine wpAny_bind (wpAny_pure ?_)
  refine wpAny_bind ?_
  unfold setSearch
  refine srch R hx hu hno hKf hK hKb ?_ 100000 0 none rfl (Nat.zero_le _) (by omega)
  dsimp only
  refine wpAny_bind (wpAny_setState_of ho hd R.fits ?_)
  dsimp only
  obtain ⟨q1, q2, q3, q4, q5, q6, q7, q8, q9⟩ := R.tab.put hK hKb
  generalize t.put (way t.mask (x.2.hash w) K) = pt at q1 q3 q4 q5 q6 q7 q8 q9 ⊢
  obtain ⟨t1, p⟩ := pt
  dsimp only at q1 q3 q4 q5 q6 q7 q8 q9 ⊢
  subst q1
  have hrow : (SetTable.insertAt es (SetTable.below t.place (way t.mask (x.2.hash w) K)) (x.2.hash w, Value.ref x.1)).toList = rowsN w (L.take (SetTable.below t.place (way t.mask (x.2.hash w) K)) ++ x :: L.drop (SetTable.below t.place (way t.mask (x.2.hash w) K))) := by
    rw [SetTable.toList_insertAt, R.rows]
    unfold rowsN
    rw [List.map_append, List.map_cons, List.map_take, List.map_drop]
  generalize SetTable.below t.place (way t.mask (x.2.hash w) K) = p at q2 q3 hrow ⊢
  have pm := insert_perm L p x
  have q3 : TabOk t1 (hsOf w (L.take p ++ x :: L.drop p)) := by
    have e : hsOf w (L.take p ++ x :: L.drop p) = (hsOf w L).take p ++ x.2.hash w :: (hsOf w L).drop p := by
      unfold hsOf
      rw [List.map_append, List.map_cons, List.map_take, List.map_drop]
    rw [e]
    exact q3
  have hl1 : (L.take p ++ x :: L.drop p).length = L.length + 1 := pm.length_eq
  generalize L.take p ++ x :: L.drop p = L1 at pm q3 hl1 hrow
  have hn1 := rows_size hrow
  generalize SetTable.insertAt es p (x.2.hash w, Value.ref x.1) = es1 at hrow hn1 ⊢
  have tail : ∀ b : Bool, wpAny (model P w) A (do
      storeSet a es1 (if b = true then t1 else { t1 with plain := false })
      if (!false && (if b = true then t1 else { t1 with plain := false } : SetTable).tooFull) = true then setRelay a (SetTable.grown (es.size + 1))
      return true) Q E s := by
    intro b
    have T2 := tab_flag q3 b
    have m2 : (if b = true then t1 else { t1 with plain := false } : SetTable).mask = t.mask := by cases b <;> exact q4
    have l2 : w.params.followText "set-order" = true ∨ (if b = true then t1 else { t1 with plain := false } : SetTable).led = true := by
      cases b <;> (show _ ∨ t1.led = true; rw [q5]; exact R.led)
    have f2 : (if b = true then t1 else { t1 with plain := false } : SetTable).fill = L.length + 1 := by
      rw [hsOf_len] at q9
      cases b <;> exact q9
    generalize (if b = true then t1 else { t1 with plain := false } : SetTable) = t2 at T2 m2 l2 f2 ⊢
    refine wpAny_bind (wpAny_storeSet_of ho hd ?_ (by rw [hn1, hl1, sizeLine_eq]; omega))
    have sb : Heap.SameBut a s.heap (s.heap.update a (Obj.putSet es1 t2)) := Heap.SameBut.update ..
    have ho1 := store_at (es' := es1) (t' := t2) ho hd
    generalize s.heap.update a (Obj.putSet es1 t2) = h1 at sb ho1 ⊢
    have ky1 : ∀ p ∈ L1, KeyAt h1 p := fun p hp => by
      rcases List.mem_cons.mp (pm.mem_iff.mp hp) with e | hp
      · rw [e]
        exact hx.same ho hd sb
      · exact (R.ky p hp).same ho hd sb
    by_cases hf : t2.tooFull = true
    · have full : (L.length + 1) * 5 ≥ t.mask * 3 := by
        have h := hf
        unfold SetTable.tooFull at h
        rw [decide_eq_true_eq, f2, m2] at h
        exact h
      have l4 : L.length = 4 ∧ t.mask = 7 := by
        rcases R.tab.mok with e | e | e <;> rw [e] at full room ⊢ <;> omega
      rw [hn, l4.1]
      have pl : t2.place.size = es1.size := by
        rw [T2.sz, hsOf_len, hl1, hn1, hl1]
      have last : ∀ h2 L2 es2 ep2 t2', Heap.SameBut a h1 h2 → SN w h2 a L2 es2 ep2 t2' → L2.Perm L1 → Q true { s with heap := h2 } := fun h2 L2 es2 ep2 t2' sb2 R2 pm2 => q true h2 L2 es2 ep2 t2' (sb.trans sb2) R2 (pm2.trans pm)
      first
        | (refine wpAny_bind (wp_if_pos (by simp [hf]) ?_)
           exact relayN (s := { s with heap := h1 }) ho1 hex rfl hrow pl T2.dm (by rw [hn1, hl1, m2]; omega) ky1 l2 (by omega) fun h2 L2 es2 ep2 t2' sb2 R2 pm2 => wpAny_pure (last h2 L2 es2 ep2 t2' sb2 R2 pm2))
        | (refine wp_if_pos (by simp [hf]) (wpAny_bind ?_)
           exact relayN (s := { s with heap := h1 }) ho1 hex rfl hrow pl T2.dm (by rw [hn1, hl1, m2]; omega) ky1 l2 (by omega) fun h2 L2 es2 ep2 t2' sb2 R2 pm2 => wpAny_pure (last h2 L2 es2 ep2 t2' sb2 R2 pm2))
    · have R2 : SN w h1 a L1 es1 (ep + 1) t2 := by
        refine ⟨⟨_, ho1, hex, rfl⟩, hrow, T2, ky1, l2, ?_⟩
        have h := hf
        unfold SetTable.tooFull at h
        rw [decide_eq_true_eq, f2, m2] at h
        rw [hl1, m2]
        omega
      first
        | exact wp_if_neg (by simp [hf]) (wpAny_pure (q true h1 L1 es1 (ep + 1) t2 sb R2 pm))
        | exact wpAny_bind (wp_if_neg (by simp [hf]) (wpAny_pure (wpAny_pure (q true h1 L1 es1 (ep + 1) t2 sb R2 pm))))
  by_cases hp1 : t1.plain = true
  · first
      | (refine wpAny_bind (wp_if_pos hp1 (hbv_key x.2 _ 8 hx.1 hx.2 _ _ _ fun b => ?_)); exact tail b)
      | (refine wp_if_pos hp1 (wpAny_bind (hbv_key x.2 _ 8 hx.1 hx.2 _ _ _ fun b => ?_)); exact tail b)
  · first
      | (refine wpAny_bind (wp_if_neg hp1 (wpAny_pure ?_)); exact tail true)
      | (refine wp_if_neg hp1 (wpAny_bind (wpAny_pure ?_)); exact tail true)
      | (refine wp_if_neg hp1 ?_; exact tail true)
end
end M91

set_option Elab.async false
set_option linter.all false
set_option maxRecDepth 100000
set_option maxHeartbeats 4000000
/-! set(l), len(set(l)) -/
namespace M91
open PySem PySem.Spec PyProof.Rows L2 GL PySem.SeqAt
section
variable {P : Program} {w : World} {A : Around} {E : Value → Shared → Prop} {s : Shared}
theorem SN.keep {h h' : Heap} {a : Addr} {L : List (Addr × NestedKey)} {es : Array (Int × Value)} {ep : Nat} {t : SetTable} (R : SN w h a L es ep t) (ha : ∀ o, h.get? a = some o → h'.get? a = some o) (ky : ∀ p ∈ L, KeyAt h' p) : SN w h' a L es ep t := by
  obtain ⟨o, ho, r⟩ := R.ob
  exact ⟨⟨o, ha o ho, r⟩, R.rows, R.tab, ky, R.led, R.room⟩
/-- an empty set, as the model makes it -/
abbrev set0 (w : World) : Obj := { cls := .type "set", dict := none, data := .set #[] 0 (.fresh 0 0 (!w.params.followText "set-order")) }
theorem sn_new {h : Heap} {a : Addr} (ho : h.get? a = some (set0 w)) : SN w h a [] #[] 0 (.fresh 0 0 (!w.params.followText "set-order")) := by
  refine ⟨⟨_, ho, ⟨rfl, rfl, rfl⟩, rfl⟩, rfl, ⟨List.Pairwise.nil, rfl, rfl, .inl rfl, (fun x hx => by cases hx), (fun i h j hi => by cases hi)⟩, (fun p hp => by cases hp), ?_, by show 0 * 5 < 7 * 3; decide⟩
  show _ ∨ (!w.params.followText "set-order") = true
  cases w.params.followText "set-order"
  · exact .inr rfl
  · exact .inl rfl
/-- the loop of set.update -/
theorem loopN {I : Addr} {fp wr : List Addr} {G : Array GenState → Array GenState → Prop} {n : Nat} {Pv : Nat → Value → Prop} {St : Nat → Shared → Prop} {R : Result → Shared → Prop} (W : WalksS P w A.in1 I fp wr G n Pv St) (S : Addr) (hSf : S ∉ fp)
    (ks : List (Addr × NestedKey)) (hn : n = ks.length) (few : ks.length ≤ 18) (nd : (ks.map (·.2)).Nodup) (hval : ∀ i v, Pv i v → ∃ p, ks[i]? = some p ∧ v = .ref p.1) (h0 : Heap) (hk : ∀ p ∈ ks, KeyAt h0 p) (hS0 : h0.get? S = none) (hw0 : ∀ b ∈ wr, h0.get? b = none) (hu : A.in1.units + 8 < cLine) :
    ∀ (d i : Nat) (s : Shared), n - i = d → i ≤ n → St i s → (∀ b o, h0.get? b = some o → s.heap.get? b = some o) → (∃ L es ep t, SN w s.heap S L es ep t ∧ L.Perm (ks.take i)) →
      (∀ s' L es ep t, Moved (S :: wr) G s s' → SN w s'.heap S L es ep t → L.Perm ks → (∀ b o, h0.get? b = some o → s'.heap.get? b = some o) → R (.ok (.ret .none)) s') → codeAny (model P w) A (.builtin "set.update.loop" ⟨[.ref S, .ref I], []⟩) R s := by
  have hSw : S ∉ wr := fun h => hSf (W.sub _ h)
  have more : ∀ b ∈ wr, b ∈ S :: wr := fun b hb => List.mem_cons_of_mem _ hb
  have stay : ∀ {s s' : Shared}, Moved wr G s s' → (∀ b o, h0.get? b = some o → s.heap.get? b = some o) → ∀ b o, h0.get? b = some o → s'.heap.get? b = some o := fun hm hkp b o e => hm.heap b o (fun hb => by rw [hw0 b hb] at e; cases e) (hkp b o e)
  intro d
  induction d with
  | zero =>
    intro i s hd hi hst hkp ⟨L, es, ep, t, hS, pm⟩ fin
    obtain rfl : i = n := by omega
    refine codeAny_builtin F.entry_set_update_loop ?_
    rw [Around.under_plainId F.plain_set_update_loop _]
    show wpAny _ A.in1 (pyNext (.ref I) >>= _) _ _ s
    refine wpAny_bind (W.done s _ _ hst fun s' hm => ?_)
    have kp := stay hm hkp
    rw [hn, List.take_length] at pm
    exact wpAny_pure (fin s' L es ep t (hm.mono more) (hS.keep (fun o e => hm.heap S o hSw e) fun p hp => (hk p (pm.mem_iff.mp hp)).keep kp) pm kp)
  | succ d ih =>
    intro i s hd hi hst hkp ⟨L, es, ep, t, hS, pm⟩ fin
    have lt : i < n := by omega
    refine codeAny_builtin F.entry_set_update_loop ?_
    rw [Around.under_plainId F.plain_set_update_loop _]
    show wpAny _ A.in1 (pyNext (.ref I) >>= _) _ _ s
    refine wpAny_bind (W.item i s _ _ lt hst fun v s' hP hst' hm => ?_)
    obtain ⟨p, hp, rfl⟩ := hval i v hP
    have kp := stay hm hkp
    have tn : ks.take (i + 1) = ks.take i ++ [p] := by
      rw [List.take_succ, hp]
      rfl
    have hS' : SN w s'.heap S L es ep t := hS.keep (fun o e => hm.heap S o hSw e) fun q hq => (hk q (List.mem_of_mem_take (pm.mem_iff.mp hq))).keep kp
    have hx : KeyAt s'.heap p := (hk p (List.mem_of_getElem? hp)).keep kp
    have new : ∀ q ∈ L, q.2 ≠ p.2 := fun q hq e => by
      have h1 : ((ks.take (i + 1)).map (·.2)).Nodup := by
        rw [List.map_take]
        exact nd.sublist (List.take_sublist _ _)
      rw [tn, List.map_append, List.nodup_append] at h1
      exact h1.2.2 q.2 (List.mem_map.mpr ⟨q, pm.mem_iff.mp hq, rfl⟩) p.2 (by simp) e
    have hl : L.length < 18 := by
      have h1 := pm.length_eq
      rw [List.length_take] at h1
      omega
    show wpAny _ A.in1 (holding [Value.ref p.1] (setAdd S (.ref p.1)) >>= _) _ _ s'
    refine wpAny_bind (wpAny_holding ?_)
    unfold setAdd
    refine wpAny_holding (wpAny_bind (pyHash_key p.2 _ _ _ _ hx.1 (by have := hx.2; omega) ?_))
    refine addN (s := { s' with toks := s'.toks + p.2.draws }) hS' hx hu new hl fun b h' L' es' ep' t' sb R2 pm2 => ?_
    have kp2 : ∀ b o, h0.get? b = some o → h'.get? b = some o := fun b o e => (sb.2 b (fun z => by rw [z, hS0] at e; cases e)).trans (kp b o e)
    have pm3 : L'.Perm (ks.take (i + 1)) := by
      rw [tn]
      exact pm2.trans ((pm.cons p).trans (List.perm_append_singleton p _).symm)
    refine wpAny_pure ⟨plainId_quiet F.plain_set_update_loop _, ih (i + 1) _ (by omega) lt (W.frame _ s' _ _ hst' (Nat.le_add_right _ _) fun b hb o e => ?_) kp2 ⟨L', es', ep', t', R2, pm3⟩ fun s'' L2 es2 ep2 t2 hm2 R3 pm4 kp3 => ?_⟩
    · rw [sb.2 b fun h => hSf (h ▸ hb)]
      exact e
    · refine fin s'' L2 es2 ep2 t2 (Moved.trans W.gtrans ((hm.mono more).then_heap (Nat.le_add_right _ _) fun b o hb e => ?_) hm2) R3 pm4 kp3
      rw [sb.2 b fun h => hb (h ▸ List.mem_cons_self)]
      exact e
theorem free_of {h : Heap} {b : Addr} (hb : h.objs.size ≤ b) : h.get? b = none := by
  cases q : h.get? b with
  | none => rfl
  | some o => exact absurd (Nat.lt_of_lt_of_le (Heap.lt_size q) hb) (Nat.lt_irrefl _)
/-- set(l) -/
theorem call_setN {l : Addr} {items : Array Value} (ks : List (Addr × NestedKey)) {Q : Value → Shared → Prop} (hh : A.handled = none) (hl : s.heap.IsList l items) (hit : items.toList = ks.map fun p => Value.ref p.1) (hk : ∀ p ∈ ks, KeyAt s.heap p) (few : ks.length ≤ 18) (nd : (ks.map (·.2)).Nodup)
    (hu : A.units + 16 < cLine) (h : ∀ (h' : Heap) (tk : Nat) L es ep t, SN w h' s.heap.objs.size L es ep t → L.Perm ks → (∀ b o, s.heap.get? b = some o → h'.get? b = some o) → Q (.ref s.heap.objs.size) { s with heap := h', toks := tk }) : wpAny (model P w) A (call (.type "set") [.ref l]) Q E s := by
  have hisz : items.size = ks.length := by rw [← Array.length_toList, hit, List.length_map]
  obtain ⟨c, tl, hmro⟩ := F.called_set.mro
  have hmade := F.called_set.made
  have hsub := F.called_set.sub
  refine wpAny_call (codeAny_of_tree ?_)
  show wpAny _ _ (callAny (.type "set") _) _ _ _
  refine wpAny_pure ⟨Code.quiet_builtin _ (by decide +kernel), codeAny_builtin F.entry_type_call ?_⟩
  rw [Around.under_plain (weight_type_call_type "set" [.ref l] []) rfl]
  have h1 := F.called_set.notType
  have h2 := F.called_set.canCreate
  have hct := F.typeCall_set_1 (.ref l)
  repeat (any_goals (first | assumption | wp_step))
  refine codeAny_mono (code_set_led1 (.ref l) (E := E) (Q₁ := fun obj s₁ => obj = .ref s.heap.objs.size ∧ s₁ = { s with heap := s.heap.push (set0 w) }) ⟨rfl, rfl⟩) fun r s₁ hr => ?_
  match r, hr with
  | .error e, hr => exact hr
  | .ok .next, hr => exact hr.elim
  | .ok .brk, hr => exact hr.elim
  | .ok .cont, hr => exact hr.elim
  | .ok (.ret obj), hr =>
    obtain ⟨rfl, rfl⟩ := hr
    have hS : (s.heap.push (set0 w)).get? s.heap.objs.size = some (set0 w) := Heap.get?_push_size _ rfl
    have hT : Shared.TypeIs { s with heap := s.heap.push (set0 w) } (.ref s.heap.objs.size) "set" := ⟨_, hS, rfl⟩
    have hli := F.called_set.init.lookup
    have hbi := F.called_set.init.bind (.ref s.heap.objs.size)
    repeat (any_goals (first | assumption | wp_step))
    refine codeAny_mono (codeAny_call_builtin (R := wants (fun r s₂ => r = .none ∧ ∃ h' tk L es ep t, s₂ = { s with heap := h', toks := tk } ∧ SN w h' s.heap.objs.size L es ep t ∧ L.Perm ks ∧ (∀ b o, s.heap.get? b = some o → h'.get? b = some o)) E)
      F.called_set.init.plain F.entry_set_init (check_set_init_1 hT ?_)) fun r₂ s₂ hr₂ => ?_
    · obtain ⟨⟨ocls, odict, odata, oslots⟩, hol, hcl, nl, hdl⟩ := hl
      simp only at hcl hdl
      subst hcl
      subst hdl
      have hol' := Heap.get?_push_of_some (set0 w) hol
      have hsls := F.sub_list_set
      have hslf := F.sub_list_frozenset
      have hne : (Value.type "list" == Value.type "dict") = false := by decide
      have hl1 : (s.heap.push (set0 w)).IsList l items := ⟨_, hol', rfl, nl, rfl⟩
      unfold Builtin.«set.__init__» noKeywords Builtin.Frozenset.updateFrom
      generalize hPI : pyIter = PI
      wp_walk
      subst hPI
      refine wpAny_pyIter_list hl1 (wpAny_bind (wpAny_runValue ?_))
      have hlS : l < s.heap.objs.size := Heap.lt_size hol
      have hh3 : A.in1.in1.in1.handled = none := by simp [hh]
      have sz : (s.heap.push (set0 w)).objs.size = s.heap.objs.size + 1 := Heap.size_push ..
      have hval : ∀ (i : Nat) (v : Value), items[i]? = some v → ∃ p, ks[i]? = some p ∧ v = .ref p.1 := fun i v hv => by
        rw [← Array.getElem?_toList, hit, List.getElem?_map] at hv
        cases q : ks[i]? with
        | none =>
          rw [q] at hv
          cases hv
        | some p =>
          rw [q] at hv
          exact ⟨p, rfl, (Option.some.inj hv).symm⟩
      refine loopN ((Walks.list hh3 _ l (by rw [sz]; exact Nat.ne_of_lt (Nat.lt_succ_of_lt hlS)) items).toS) s.heap.objs.size (by rw [sz]; simp only [List.mem_cons, List.not_mem_nil, or_false, not_or]; exact ⟨Nat.ne_of_lt (Nat.lt_succ_self _), Nat.ne_of_gt hlS⟩) ks hisz few nd hval s.heap hk (free_of (Nat.le_refl _))
        (fun b hb => free_of (by rw [List.mem_singleton.mp hb, sz]; exact Nat.le_succ _)) (by simp only [Around.in1_units]; omega) (items.size - 0) 0 _ (by omega) (Nat.zero_le _) ⟨⟨_, Heap.get?_push_size _ rfl, rfl, rfl⟩, hl1.push _⟩ (fun b o e => Heap.get?_push_of_some _ (Heap.get?_push_of_some _ e))
        ⟨[], #[], 0, _, sn_new (Heap.get?_push_of_some _ hS), List.Perm.refl _⟩ fun s' L es ep t hm R pm kp => ?_
      obtain ⟨h', g2, d', tk', os'⟩ := s'
      obtain rfl : g2 = s.gens := hm.gens
      obtain rfl : d' = s.drawn := hm.drawn
      obtain rfl : os' = s.os := hm.os
      show wpAny _ _ _ _ _ _
      refine wpAny_pure ?_
      show wpAny _ _ (ret Value.none) _ _ _
      exact wpAny_pure ⟨rfl, h', tk', L, es, ep, t, rfl, R, pm, kp⟩
    · match r₂, hr₂ with
      | .error e, hr₂ => exact hr₂
      | .ok .next, hr₂ => exact hr₂.elim
      | .ok .brk, hr₂ => exact hr₂.elim
      | .ok .cont, hr₂ => exact hr₂.elim
      | .ok (.ret r), hr₂ =>
        obtain ⟨rfl, h', tk, L, es, ep, t, rfl, R, pm, kp⟩ := hr₂
        repeat (any_goals (first | assumption | wp_step))
        exact h _ _ _ _ _ _ R pm kp
end
/-! ### the rule -/
mutual
/-- what the data is as a key -/
def keyD' : PyData → NestedKey
  | .bool b => .num (if b = true then 1 else 0)
  | .int i => .num i
  | .str x => .text x
  | .tuple xs => .tup (keysD' xs)
  | _ => .none
def keysD' : List PyData → List NestedKey
  | [] => []
  | x :: xs => keyD' x :: keysD' xs
end
section
variable {X : Cx} {pins : List (Addr × Obj)} {σ : L2.St} {H : Hp} {s : Shared}
mutual
theorem key_of (I : Inv X pins σ H s) : ∀ {v : V} {d : PyData} {u : Value}, TV X.K H v d → RelV v u → NestedIs s.heap (keyD' d) u
  | _, _, _, .non, r => by
    cases r
    exact .none
  | _, _, _, .bl b, r => by
    cases r
    exact .bool rfl
  | _, _, _, .int i, r => by
    obtain ⟨t, rfl⟩ := r
    exact .int i t
  | _, _, _, .str x, r => by
    obtain ⟨t, rfl⟩ := r
    exact .text x t
  | _, _, _, .tup h ts, r => by
    cases r
    obtain ⟨its, rv, ⟨o, ho, hc, m, hd⟩, _⟩ := I.tuple h
    rw [keyD']
    exact .tup ho hc hd (by simpa using keys_of I ts rv)
theorem keys_of (I : Inv X pins σ H s) : ∀ {vs : List V} {ds : List PyData} {us : List Value}, TVs X.K H vs ds → Vals vs us → NestedAll s.heap (keysD' ds) us
  | _, _, _, .nil, .nil => by
    rw [keysD']
    exact .nil
  | _, _, _, .cons a t, .cons r q => by
    rw [keysD']
    exact .cons (key_of I a r) (keys_of I t q)
end
/-- len(set(l)): as many as there are, if no two are equal -/
def tLenSetN (K : PySem.W.Frag) (ta : TE) : TE := fun σ H Q => ta σ H fun x H1 => ∃ (l : Addr) (as : List Addr) (dt : Addr → PyData), x = .ref l ∧ SqL K H1 l (as.map V.ref) ∧ as.length ≤ 18 ∧ (∀ a ∈ as, TV K H1 (.ref a) (dt a) ∧ (keyD' (dt a)).depth ≤ 8) ∧ (as.map fun a => keyD' (dt a)).Nodup ∧ Q (.int as.length) H1
theorem pe_lenSetN {a : Expr} {ta : TE} {p p2 q pos : Pos} (hc : X.calm = true) (hu : X.A.units + 64 < cLine) (hg : Gl X "len") (hm : X.mg "len" = none) (hg2 : Gl X "set") (hm2 : X.mg "set" = none) (ha : PE X a ta) (na : starEach [a] X.env = (false, eval a X.env) :: starEach [] X.env := by rfl) :
    PE X (.Call (.Name "len" p) [.Call (.Name "set" p2) [a] [] q] [] pos) (tLenSetN X.K ta) := by
  refine ⟨fun pins s σ H Q I h => Call_ (ld_blt I hg hm PySem.boot_len ?_)⟩
  refine PyProof.Rows.callWith_builtin1 (PyProof.Rows.args_cons (Call_ (ld_blt I hg2 hm2 PyProof.Rows.boot_set ?_)) rfl) rfl rfl
  refine PyProof.Rows.callWith_type1 (PyProof.Rows.args_cons (thn (ha.run pins s σ H _ I h) fun v s1 ⟨x, H1, I1, r1, q1⟩ => PyProof.Rows.args_nil ?_) na) na rfl
  obtain ⟨l, as, dt, rfl, hs, h18, hk, nd, q1⟩ := q1
  cases r1
  obtain ⟨its, rv, pl, _⟩ := I1.list hs
  obtain rfl := refs_as rv
  refine call_setN (as.map fun a => (a, keyD' (dt a))) (I1.ok.hd hc) pl.isList (by simp) (fun p hp => ?_) (by rw [List.length_map]; exact h18) (by rw [List.map_map]; exact nd) (by omega) fun h' tk L es ep t R pm kp => ?_
  · obtain ⟨a, ham, rfl⟩ := List.mem_map.mp hp
    exact ⟨key_of I1 (hk a ham).1 rfl, (hk a ham).2⟩
  · refine PyProof.Rows.args_nil ?_
    obtain ⟨o, ho, hex, hd⟩ := R.ob
    have n : es.size = as.length := by rw [rows_size R.rows, pm.length_eq, List.length_map]
    have I2 : Inv X pins σ H1 { s1 with heap := h', toks := tk } := I1.kept kp
    exact call_len_set ho hex hd (SN.fits (s := { s1 with heap := h', toks := tk }) R) (by rw [n]; omega) ⟨.int as.length, H1, I2.tok _, ⟨_, by rw [n]⟩, q1⟩
end
end M91

set_option Elab.async false
set_option linter.all false
set_option maxRecDepth 100000
set_option maxHeartbeats 4000000
/-! read_plan -/
namespace M91
open PySem PySem.Spec PyProof.Rows L2 GL TL
theorem scRP : FnScope ["text", "found", "keys", "targets", "reading", "deed"] ["text"] (defScope sReadP) := ⟨rfl, rfl, rfl, by decide +kernel, rfl, by decide +kernel, by decide +kernel⟩
section
variable {X : Cx}
/-- xs != ys of two lists of the very same objects -/
theorem op_neRefs (hu : X.A.units < cLine) : OpR X (compareOp .NotEq) (fun x y H Q => ∃ (a b : Addr) (as : List Addr), x = .ref a ∧ y = .ref b ∧ SqL X.K H a (as.map V.ref) ∧ SqL X.K H b (as.map V.ref) ∧ Q (.bl false) H) := by
  intro pins s σ H x y v u Q I rx ry h
  obtain ⟨a, b, as, rfl, rfl, h1, h2, q⟩ := h
  cases rx
  cases ry
  obtain ⟨its, r, pl, _⟩ := I.list h1
  obtain ⟨jts, r2, pl2, _⟩ := I.list h2
  obtain rfl := refs_as r
  obtain rfl := refs_as r2
  refine SeqAt.RcNeAt.lists (A := X.A) (s := s) (e := fun _ => true) pl.isList pl2.isList rfl hu (fun j g1 g2 => SeqAt.EqAt.same _) X.prog X.w X.xe (EP X pins σ Q) ?_
  refine ⟨.bl false, H, I, ?_, q⟩
  show Value.bool _ = Value.bool false
  congr 1
  simp
end
/-- sorted already -/
theorem sorted_eq {α : Type} {lt : α → α → Bool} : ∀ {ys as : List α}, ys.Perm as → SrtO.Srtd lt ys → as.Pairwise (fun x y => lt x y = true) → ys = as
  | [], as, p, _, _ => (List.nil_perm.mp p).symm ▸ rfl
  | y :: ys, [], p, _, _ => absurd p.symm (by simp)
  | y :: ys, a :: as, p, h1, h2 => by
    rcases List.mem_cons.mp (p.mem_iff.mp (List.mem_cons_self ..)) with e | e
    · subst e
      rw [sorted_eq (List.perm_cons _ |>.mp p) (List.pairwise_cons.mp h1).2 (List.pairwise_cons.mp h2).2]
    · have h3 := (List.pairwise_cons.mp h2).1 y e
      rcases List.mem_cons.mp (p.mem_iff.mpr (List.mem_cons_self ..)) with z | z
      · rw [z] at h3
        have h4 := (List.pairwise_cons.mp h2).1 y e
        subst z
        have h5 := List.pairwise_cons.mp h1
        rw [sorted_eq (List.perm_cons _ |>.mp p) h5.2 (List.pairwise_cons.mp h2).2]
      · have h4 := (List.pairwise_cons.mp h1).1 a z
        rw [h3] at h4
        cases h4
theorem Lab.k_td (l : Lab) : tdat l.k = true := by
  cases l with
  | w x => rfl
  | n k => rfl
theorem labs_td : ∀ p : Path, tdats (p.map Lab.k) = true
  | [] => rfl
  | l :: r => by
    rw [List.map_cons, tdats, Lab.k_td, labs_td r]
    rfl
theorem Dd.k_td (x : Dd) : tdat x.k = true := by
  cases x with
  | set s l =>
    show (true && (true && (true && (tdats (s.p.map Lab.k) && true)))) = true
    rw [labs_td]
    rfl
  | gone s =>
    show (true && (true && (true && (tdats (s.p.map Lab.k) && true)))) = true
    rw [labs_td]
    rfl
  | order f n ks => rfl
theorem labs_dep : ∀ p : Path, PyData.depthAll (p.map Lab.k) ≤ 1
  | [] => by decide
  | l :: r => by
    have := labs_dep r
    have e : l.k.depth = 1 := by cases l <;> rfl
    rw [List.map_cons, PyData.depthAll, e]
    omega
theorem Dd.k_dep (x : Dd) : x.k.depth ≤ 60 := by
  have key : ∀ (a b c : Str) (p : Path), (PyData.tuple [.str a, .str b, .str c, .tuple (p.map Lab.k)]).depth ≤ 60 := fun a b c p => by
    have := labs_dep p
    simp only [PyData.depth, PyData.depthAll]
    omega
  cases x with
  | set s l => exact key _ _ _ _
  | gone s => exact key _ _ _ _
  | order f n ks => exact key _ _ _ []
theorem akins_labs : ∀ (p q : Path), akins (p.map Lab.k) (q.map Lab.k) = true
  | [], _ => by rw [List.map_nil, akins]
  | _ :: _, [] => by rw [List.map_nil, List.map_cons, akins]
  | l :: r, m :: t => by
    rw [List.map_cons, List.map_cons, akins]
    split
    · exact akins_labs r t
    · cases l with
      | w x =>
        cases m with
        | w y => show akins _ _ = true; simp [akins, akin, PyData.eqv]
        | n j => show akins _ _ = true; simp [akins, akin, PyData.eqv]
      | n k =>
        cases m with
        | w y => show akins _ _ = true; simp [akins, akin, PyData.eqv]
        | n j => show akins _ _ = true; simp [akins, akin, PyData.eqv]
theorem akin_k (a b c a' b' c' : Str) (p q : Path) : akin (.tuple [.str a, .str b, .str c, .tuple (p.map Lab.k)]) (.tuple [.str a', .str b', .str c', .tuple (q.map Lab.k)]) = true := by
  have h := akins_labs p q
  rw [akin]
  simp only [akins, akin, h]
  split <;> (try rfl)
  split <;> (try rfl)
  split <;> (try rfl)
  split <;> rfl
/-- the key's parts -/
def Dd.kp : Dd → Str × Str × Str × Path
  | .set s _ => ("set", s.f, s.o, s.p)
  | .gone s => ("gone", s.f, s.o, s.p)
  | .order f n _ => ("order", f, n, [])
theorem Dd.k_eq (x : Dd) : x.k = .tuple [.str x.kp.1, .str x.kp.2.1, .str x.kp.2.2.1, .tuple (x.kp.2.2.2.map Lab.k)] := by
  cases x <;> rfl
theorem Dd.k_akin (x y : Dd) : akin x.k y.k = true := by
  rw [x.k_eq, y.k_eq]
  exact akin_k ..
/-- the target -/
def Dd.tg : Dd → PyData
  | .set s _ => .tuple [.bool false, s.d]
  | .gone s => .tuple [.bool false, s.d]
  | .order f n _ => .tuple [.bool true, .tuple [.str f, .str n]]
theorem key_labs : ∀ p : Path, NestedKey.depthAll (keysD' (p.map Lab.d)) ≤ 0
  | [] => Nat.le_refl _
  | l :: r => by
    have := key_labs r
    cases l with
    | w x =>
      show max 0 (NestedKey.depthAll (keysD' (r.map Lab.d))) ≤ 0
      omega
    | n k =>
      show max 0 (NestedKey.depthAll (keysD' (r.map Lab.d))) ≤ 0
      omega
theorem Dd.tg_dep (x : Dd) : (keyD' x.tg).depth ≤ 8 := by
  have key : ∀ s : Spot, (keyD' (.tuple [.bool false, s.d])).depth ≤ 8 := fun s => by
    have := key_labs s.p
    simp only [Spot.d, pathD, keyD', keysD', NestedKey.depth, NestedKey.depthAll]
    omega
  cases x with
  | set s l => exact key s
  | gone s => exact key s
  | order f n ks =>
    show (2 : Nat) ≤ 8
    decide
section
variable {P : Program} {w : World} {K : PySem.W.Frag} {mg : Str → Option Value} {base : Heap} {C : Addr}
theorem TVs.refs {H : Hp} {α : Type} {f : α → PyData} (hf : ∀ x, ∃ ds, f x = .tuple ds) : ∀ {e : List α} {ys : List V}, TVs K H ys (e.map f) → ∃ as : List Addr, ys = as.map V.ref
  | [], _, h => ⟨[], h.ofNil⟩
  | x :: e, _, h => by
    obtain ⟨v, r, rfl, h1, h2⟩ := h.ofCons
    obtain ⟨ds, q⟩ := hf x
    rw [q] at h1
    obtain ⟨a, _, rfl, _⟩ := h1.ofTup
    obtain ⟨as, rfl⟩ := TVs.refs hf h2
    exact ⟨a :: as, rfl⟩
theorem Dd.k_tup (x : Dd) : ∃ ds, x.k = .tuple ds := by cases x <;> exact ⟨_, rfl⟩
theorem Dd.tg_tup (x : Dd) : ∃ ds, x.tg = .tuple ds := by cases x <;> exact ⟨_, rfl⟩
/-- addresses and what stands there -/
theorem dt_of {H : Hp} {α : Type} {f : α → PyData} : ∀ {e : List α} {as : List Addr}, TVs K H (as.map V.ref) (e.map f) → as.Nodup → ∃ g : Addr → Option α, (∀ a ∈ as, ∃ x ∈ e, g a = some x ∧ TV K H (.ref a) (f x)) ∧ as.map g = e.map some
  | [], [], _, _ => ⟨fun _ => none, fun a h => (by cases h), rfl⟩
  | [], _ :: _, h, _ => by cases h
  | _ :: _, [], h, _ => by cases h
  | x :: e, a :: as, h, nd => by
    cases h with
    | cons h1 h2 =>
      obtain ⟨n1, n2⟩ := List.nodup_cons.mp nd
      obtain ⟨g, hg, he⟩ := dt_of h2 n2
      refine ⟨fun b => if b = a then some x else g b, fun b hb => ?_, ?_⟩
      · rcases List.mem_cons.mp hb with rfl | hb
        · exact ⟨x, List.mem_cons_self .., if_pos rfl, h1⟩
        · obtain ⟨y, hy, e1, e2⟩ := hg b hb
          have : b ≠ a := fun z => n1 (z ▸ hb)
          exact ⟨y, List.mem_cons_of_mem _ hy, (if_neg this).trans e1, e2⟩
      · rw [List.map_cons, List.map_cons]
        congr 1
        · exact if_pos rfl
        · rw [← he]
          exact List.map_congr_left fun b hb => if_neg fun (z : b = a) => n1 (z ▸ hb)
end
end M91

set_option Elab.async false
set_option linter.all false
set_option maxRecDepth 100000
set_option maxHeartbeats 4000000
/-! read_plan -/
namespace M91
open PySem PySem.Spec PyProof.Rows L2 GL TL
theorem Dd.ok_short {x : Dd} (h : x.ok) : x.short := by
  cases x with
  | set s l => exact h.1.2.2.1
  | gone s => exact h.2.2.1
  | order f n ks => trivial
section
variable {P : Program} {w : World} {K : PySem.W.Frag} {mg : Str → Option Value} {base : Heap} {C : Addr}
/-- one more, new -/
theorem grow {H4 H5 : Hp} {D a : Addr} {as : List Addr} {ds : List PyData} {d : PyData} (hD : H4 D = some (.lst (as.map V.ref))) (s5 : Same H4 H5) (na : H4 a = none) (ha : ∃ o, H5 a = some o) (nd : as.Nodup) (ex : ∀ b ∈ as, ∃ o, H4 b = some o) (tv : TVs K H4 (as.map V.ref) ds) (t : TV K H5 (.ref a) d) :
    (upd H5 D (.lst (as.map V.ref ++ [.ref a]))) D = some (.lst ((as ++ [a]).map V.ref)) ∧ (as ++ [a]).Nodup ∧ (∀ b ∈ as ++ [a], ∃ o, (upd H5 D (.lst (as.map V.ref ++ [.ref a]))) b = some o) ∧ TVs K (upd H5 D (.lst (as.map V.ref ++ [.ref a]))) ((as ++ [a]).map V.ref) (ds ++ [d]) := by
  have tkD : TK H5 (upd H5 D (.lst (as.map V.ref ++ [.ref a]))) := tk_lst (TK.refl _) (s5 _ _ hD)
  have e : (as ++ [a]).map V.ref = as.map V.ref ++ [V.ref a] := by
    rw [List.map_append]
    rfl
  refine ⟨by rw [upd_same, e], ?_, fun b hb => ?_, ?_⟩
  · rw [List.nodup_append]
    refine ⟨nd, by simp, fun b hb c hc => ?_⟩
    obtain rfl : c = a := by simpa using hc
    obtain ⟨o, ho⟩ := ex b hb
    exact ne_of_none ho na
  · by_cases z : b = D
    · rw [z]
      exact ⟨_, upd_same⟩
    · rw [upd_ne z]
      rcases List.mem_append.mp hb with hb | hb
      · obtain ⟨o, ho⟩ := ex b hb
        exact ⟨o, s5 _ _ ho⟩
      · obtain rfl : b = a := by simpa using hb
        exact ha
  · rw [e]
    exact ((tv.tk (tk_same s5)).tk tkD).app (.cons (t.tk tkD) .nil)
def spReadP (K : PySem.W.Frag) : Sp := fun vs H Q _ => ∃ (e : List Dd), vs = [.str (pT e)] ∧ e.length ≤ 18 ∧ (∀ x ∈ e, x.ok) ∧ (∀ x ∈ e, x.rd) ∧ (e.Pairwise fun x y => lxT (PySem.W.keyToks x.k) (PySem.W.keyToks y.k) = true) ∧ (e.map fun x => keyD' x.tg).Nodup ∧
  ∀ H' a, Same H H' → TV K H' (.ref a) (.tuple (e.map Dd.d)) → Q (.ref a) H'
theorem ok_readP {f : Addr} {fd : FuncData} (F : Fun K "read_plan" "read_plan" sReadP f fd) (T : Bl K mg) (R : Rg K mg C) (d_parts_read : DnO P w K mg base "parts_read" 4 ["text"] (spParts C)) (m_read_deed : DnM P w K mg base C "read_deed" 5 ["self"] (spDeedR K C)) (d_deed_key : DnO P w K mg base "deed_key" 1 ["deed"] (spKey K))
    (d_show_plan : DnO P w K mg base "show_plan" 5 ["plan"] (spShowP K)) : FnOk P w K mg base CX0 6 f fd ["text"] (spReadP K) := by
  refine F.ok scRP (fun vs H Q E h => ?_) (fun cdv A outer s H vs Q E hr h => ?_)
  · obtain ⟨e, rfl, _⟩ := h
    rfl
  · obtain ⟨e, rfl, h18, ok, rd, srt, ndt, q⟩ := h
    have h30 : e.length ≤ 30 := by omega
    refine ⟨_, (pss_cons (ps_set (i := 1) scRP.nd rfl (Or.inl rfl) (pe_callTy call_tuple_of (by rfl) T.tuple (by decide +kernel) (pa_cons (pe_lc (own := [("reading", 4)]) (g := gName 4) (by rfl) scRP.nd (pi_list (pe_call d_parts_read.ok (hr.mono (by omega)) (by rfl) d_parts_read.g d_parts_read.kp d_parts_read.b .nil pass0 (pa_cons (pv 0) pa_nil))) (blkOk_by (own := [("reading", 4)]) (N := ["text", "found", "keys", "targets", "reading", "deed"]) (sc := defScope sReadP) (by decide +kernel)) (fun _ _ _ _ _ => (pg_name (i := 4) scRP.nd rfl (Or.inl rfl))) (fun _ _ _ _ _ => pts_nil) (fun _ _ _ _ _ => (pe_meth0 (pv 4) R.cl m_read_deed.mt m_read_deed.ok (hr.mono (by omega)) m_read_deed.b .nil pass0))) pa_nil)))
      (pss_cons (ps_setLc (i := 2) (own := [("deed", 5)]) (g := gName 5) (by rfl) scRP.nd rfl rfl (sw_true rfl rfl rfl (by decide +kernel)) (pi_tup (pv 1)) (blkOk_by (own := [("deed", 5)]) (N := ["text", "found", "keys", "targets", "reading", "deed"]) (sc := defScope sReadP) (by decide +kernel)) (fun _ _ _ _ _ => (pg_name (i := 5) scRP.nd rfl (Or.inl rfl))) (fun _ _ _ _ _ => pts_nil) (fun _ _ _ _ _ => (pe_call d_deed_key.ok (hr.mono (by omega)) (by rfl) d_deed_key.g d_deed_key.kp d_deed_key.b .nil pass0 (pa_cons (pv 5) pa_nil))))
      (pss_cons (ps_setLc (i := 3) (own := [("deed", 5)]) (g := gName 5) (by rfl) scRP.nd rfl rfl (sw_true rfl rfl rfl (by decide +kernel)) (pi_tup (pv 1)) (blkOk_by (own := [("deed", 5)]) (N := ["text", "found", "keys", "targets", "reading", "deed"]) (sc := defScope sReadP) (by decide +kernel)) (fun _ _ _ _ _ => (pg_name (i := 5) scRP.nd rfl (Or.inl rfl))) (fun _ _ _ _ _ => pts_nil) (fun _ _ _ _ _ => (pe_tup (pa_cons (pe_cmpR op_eq (pe_ix (r := rIxT K) ix_tup (pv 5) pe_int (fun _ _ => rfl)) (pe_glob (v := .str "order") (by rfl) T.corder.choose_spec ⟨_, rfl⟩) (nomark _)) (pa_cons (pe_ifExp (pt_cmpR op_eq (pe_ix (r := rIxT K) ix_tup (pv 5) pe_int (fun _ _ => rfl)) (pe_glob (v := .str "order") (by rfl) T.corder.choose_spec ⟨_, rfl⟩) (nomark _)) (pe_slice (r := rSlA K) sl_tupA (pv 5) (po_some pe_int) (po_some (pe_un un_neg pe_int))) (pe_ix (r := rIxT K) ix_tup (pv 5) pe_int (fun _ _ => rfl))) pa_nil)))))
      (pss_cons (ps_if (PW.pt (pw_or (pt_cmpR (op_neRefs hr.units0) (pv 2) (pe_callB (r := rSortD K) (cr_sortD hr.units) (by rfl) T.sorted (by decide +kernel) (pa_cons (pv 2) pa_nil)) (nomark _)) (pw_or (pt_cmpR op_lt (pe_lenSetN rfl hr.units (by rfl) T.len (by rfl) T.set (pv 3)) (pe_callB call_len_seq (by rfl) T.len (by decide +kernel) (pa_cons (pv 3) pa_nil)) (nomark _)) (pw_or1 (pt_cmpR op_ne (pe_call d_show_plan.ok (hr.mono (by omega)) (by rfl) d_show_plan.g d_show_plan.kp d_show_plan.b .nil pass0 (pa_cons (pv 1) pa_nil)) (pv 0) (nomark _))))))
        (pss_one ps_never)
        pss_nil)
      (pss_one (ps_ret (pv 1))))))), ?_⟩
    refine ⟨.str (pT e), rfl, pT e, e.map Dd.t, rfl, pT_parts ok rd h30, by rw [List.length_map]; omega, fun x hx => ?_, fun H1 D0 ts s1 hD0 hRd hf hw => ?_⟩
    · obtain ⟨z, hz, rfl⟩ := List.mem_map.mp hx
      have := Dd.tlen (ok z hz)
      omega
    · have lts : ts.length = e.length := by
        have := congrArg List.length hw
        rwa [List.length_map, List.length_map, List.length_map] at this
      obtain ⟨hr1, hnd⟩ := hRd
      refine ⟨D0, rfl, ⟨_, SqL.of hD0⟩, fun D nD => ?_⟩
      have hnone : ∀ {D : Addr}, H1 D = none → H D = none := fun h => none_of s1 h
      refine lc_list (K := K) (a := D0) (xs := ts.map rdV) (fun i H2 => Same H H2 ∧ H2 D0 = some (.lst (ts.map rdV)) ∧ (∀ x ∈ ts.drop i, RdAt C H2 x.1 x.2.1 x.2.2) ∧ ∃ ys : List V, H2 D = some (.lst ys) ∧ TVs K H2 ys ((e.take i).map Dd.d))
        ⟨s1.trans (same_new nD), (same_new nD) _ _ hD0, fun x hx => (hr1 x hx).same (same_new nD), [], upd_same, .nil⟩ (fun i H2 _ hP => SqL.of hP.2.1) (fun i x H2 hx hP => ?_) (fun H2 hP => ?_)
      · obtain ⟨sm, hD0', hrd, ys, hD, hys⟩ := hP
        obtain ⟨y, hy, rfl⟩ := at_map hx
        have hil : i < ts.length := (List.getElem?_eq_some_iff.mp hy).1
        have hle : i < e.length := by omega
        have hze : e[i]? = some e[i] := List.getElem?_eq_getElem hle
        have ze := List.getElem_mem hle
        have hyd : ts.drop i = y :: ts.drop (i + 1) := by
          have e1 := List.drop_eq_getElem_cons hil
          rw [(List.getElem?_eq_some_iff.mp hy).2] at e1
          exact e1
        have hW : y.2.2 = (e[i]).W := by
          have h1 : (ts.map fun x => x.2.2)[i]? = some y.2.2 := by
            rw [List.getElem?_map, hy]
            rfl
          rw [hw, List.getElem?_map, List.getElem?_map, hze] at h1
          have h2 : bl (e[i]).t = y.2.2 := Option.some.inj h1
          rw [← h2]
          exact Dd.pz (rd _ ze) (by rw [← len_cs]; omega)
        have RD := hrd y (by rw [hyd]; exact List.mem_cons_self ..)
        rw [hW] at RD
        have yD : y.2.1 ≠ D := fun z => by
          have h1 := (hr1 y (List.mem_of_getElem? hy)).l
          rw [z, nD] at h1
          cases h1
        have yD0 := (hf y (List.mem_of_getElem? hy)).2
        refine ⟨rfl, .ref y.1, rfl, y.1, RD.dx, _, rfl, RD.i, rf_no _ _ (by decide +kernel) (by decide +kernel), y.1, y.2.1, e[i], rfl, RD, rd _ ze, fun H3 a o3 tv => ?_⟩
        have hD3 := o3 _ _ yD.symm hD
        have tk3 : TK H2 H3 := off_tk RD.l o3
        have lys : ys.length = i := by
          rw [hys.length, List.length_map, List.length_take]
          omega
        have tkD : TK H3 (upd H3 D (.lst (ys ++ [.ref a]))) := tk_lst (TK.refl _) hD3
        have Dne : D0 ≠ D := fun z => by
          rw [z, nD] at hD0
          cases hD0
        refine ⟨_, hD3, ?_, ?_, ?_, fun x hx => ?_, ys ++ [.ref a], upd_same, ?_⟩
        · exact Nat.lt_of_lt_of_le (by omega : ys.length < 1001) (big_le (n := 1001) (by decide))
        · refine same_put (fun b o h => o3 b o (fun z => ?_) (sm b o h)) (hnone nD)
          rw [z, (hf y (List.mem_of_getElem? hy)).1] at h
          cases h
        · rw [upd_ne Dne]
          exact o3 _ _ yD0.symm hD0'
        · have hx2 : x ∈ ts.drop i := by
            rw [hyd]
            exact List.mem_cons_of_mem _ hx
          obtain ⟨dx, t, h1, h2⟩ := hrd x hx2
          have xts : x ∈ ts := List.mem_of_mem_drop hx2
          have xne : x.2.1 ≠ y.2.1 := by
            have h3 : ((ts.drop i).map fun x => x.2.1).Nodup := by
              rw [List.map_drop]
              exact hnd.sublist (List.drop_sublist _ _)
            rw [hyd, List.map_cons] at h3
            exact fun z => (List.nodup_cons.mp h3).1 (z ▸ List.mem_map.mpr ⟨x, hx, rfl⟩)
          have xD : x.2.1 ≠ D := fun z => by
            have h3 := (hr1 x xts).l
            rw [z, nD] at h3
            cases h3
          refine ⟨dx, t, ?_, ?_⟩
          · have h3 := o3 _ _ (ne_of h1 RD.l (by intro z; cases z)) h1
            rw [upd_ne (ne_of h3 hD3 (by intro z; cases z))]
            exact h3
          · rw [upd_ne xD]
            exact o3 _ _ xne h2
        · rw [take_lab hze]
          exact ((hys.tk tk3).tk tkD).app (.cons (tv.tk tkD) .nil)
      · obtain ⟨sm, _, _, ys, hD, hys⟩ := hP
        rw [List.length_map, lts, List.take_length] at hys
        have lys : ys.length = e.length := by
          rw [hys.length, List.length_map]
        refine ⟨D, ys, rfl, .inl ⟨SqL.of hD, fun t nt => ?_⟩⟩
        have st := same_new (o := .tup ys) nt
        have hT3 : SqT K (upd H2 t (.tup ys)) t ys := SqT.of upd_same
        have hys3 := hys.tk (tk_same st)
        have sm3 : Same H (upd H2 t (.tup ys)) := sm.trans st
        generalize upd H2 t (.tup ys) = H3 at hT3 hys3 sm3 ⊢
        clear hD st nt hys sm nD hD0 hf hw hr1 hnd hnone s1
        refine ⟨.ref t, rfl, t, rfl, ⟨_, hT3⟩, fun D2 nD2 => ?_⟩
        refine lc_tup (K := K) (a := t) (xs := ys) (fun i H4 => Same H3 H4 ∧ ∃ as : List Addr, H4 D2 = some (.lst (as.map V.ref)) ∧ as.Nodup ∧ (∀ a ∈ as, ∃ o, H4 a = some o) ∧ TVs K H4 (as.map V.ref) ((e.take i).map Dd.k)) ⟨same_new nD2, [], upd_same, List.nodup_nil, (fun a h => by cases h), .nil⟩
          (fun i H4 _ hP => SqT.tk (tk_same hP.1) hT3) (fun i x H4 hx hP => ?_) (fun H4 hP => ?_)
        · obtain ⟨s4, as, hD4, nd4, ex4, tv4⟩ := hP
          obtain ⟨d, hd, tx⟩ := hys3.get hx
          obtain ⟨z, hz, rfl⟩ := mapd_at hd
          have hil := (List.getElem?_eq_some_iff.mp hz).1
          have las : as.length = i := by
            have := tv4.length
            rw [List.length_map, List.length_map, List.length_take] at this
            omega
          refine ⟨rfl, x, rfl, x, z, rfl, tx.tk (tk_same s4), Dd.ok_short (ok z (List.mem_of_getElem? hz)), fun H5 a s5 na ha tk5 => ?_⟩
          obtain ⟨g1, g2, g3, g4⟩ := grow hD4 s5 na ha nd4 ex4 tv4 tk5
          refine ⟨_, s5 _ _ hD4, ?_, same_put (s4.trans s5) nD2, as ++ [a], g1, g2, g3, ?_⟩
          · rw [List.length_map]
            exact Nat.lt_of_lt_of_le (by omega : as.length < 1001) (big_le (n := 1001) (by decide))
          · rw [take_lab hz]
            exact g4
        · obtain ⟨s4, as, hD4, nd4, ex4, tv4⟩ := hP
          rw [lys, List.take_length] at tv4
          have hT4 := SqT.tk (tk_same s4) hT3
          refine ⟨.ref t, rfl, t, rfl, ⟨_, hT4⟩, fun D5 nD5 => ?_⟩
          refine lc_tup (K := K) (a := t) (xs := ys) (fun i H6 => Same H4 H6 ∧ ∃ bs : List Addr, H6 D5 = some (.lst (bs.map V.ref)) ∧ bs.Nodup ∧ (∀ a ∈ bs, ∃ o, H6 a = some o) ∧ TVs K H6 (bs.map V.ref) ((e.take i).map Dd.tg)) ⟨same_new nD5, [], upd_same, List.nodup_nil, (fun a h => by cases h), .nil⟩
            (fun i H6 _ hP => SqT.tk (tk_same hP.1) hT4) (fun i x H6 hx hP => ?_) (fun H6 hP => ?_)
          · obtain ⟨s6, bs, hD6, nd6, ex6, tv6⟩ := hP
            obtain ⟨d, hd, tx⟩ := hys3.get hx
            obtain ⟨z, hz, rfl⟩ := mapd_at hd
            have hil := (List.getElem?_eq_some_iff.mp hz).1
            have las : bs.length = i := by
              have := tv6.length
              rw [List.length_map, List.length_map, List.length_take] at this
              omega
            have tx4 := tx.tk (tk_same (s4.trans s6))
            have fin : ∀ (H7 : Hp) (a : Addr), Same H6 H7 → H6 a = none → (∃ o, H7 a = some o) → TV K H7 (.ref a) z.tg → ∃ acc, H7 D5 = some (.lst acc) ∧ acc.length < sizeLine ∧ (Same H4 (upd H7 D5 (.lst (acc ++ [.ref a]))) ∧ ∃ bs : List Addr, (upd H7 D5 (.lst (acc ++ [.ref a]))) D5 = some (.lst (bs.map V.ref)) ∧ bs.Nodup ∧
                (∀ b ∈ bs, ∃ o, (upd H7 D5 (.lst (acc ++ [.ref a]))) b = some o) ∧ TVs K (upd H7 D5 (.lst (acc ++ [.ref a]))) (bs.map V.ref) ((e.take (i + 1)).map Dd.tg)) := fun H7 a s7 na ha tt => by
              obtain ⟨g1, g2, g3, g4⟩ := grow hD6 s7 na ha nd6 ex6 tv6 tt
              refine ⟨_, s7 _ _ hD6, ?_, same_put (s6.trans s7) nD5, bs ++ [a], g1, g2, g3, ?_⟩
              · rw [List.length_map]
                exact Nat.lt_of_lt_of_le (by omega : bs.length < 1001) (big_le (n := 1001) (by decide))
              · rw [take_lab hz]
                exact g4
            clear hx hd tx hz
            cases z with
            | set p l =>
              obtain ⟨b, xs, rfl, hB, tb⟩ := tx4.ofTup
              obtain ⟨u1, u2, u3, rfl, t1, t2, t3⟩ := tb.of3
              obtain rfl := t1.ofStr
              refine ⟨rfl, .ref b, rfl, b, _, 0, .str "set", rfl, rfl, hB, rfl, rfl, .ref b, rfl, b, _, 0, .str "set", rfl, rfl, hB, rfl, rfl, _, rfl, iteF ?_⟩
              refine ⟨.ref b, rfl, b, _, 1, u2, rfl, rfl, hB, rfl, by show 2 ≤ sizeLine; decide, fun z nz => ?_⟩
              have sz := same_new (o := .tup [.bl false, u2]) nz
              exact fin _ z sz nz ⟨_, upd_same⟩ (.tup (SqT.of upd_same) (.cons (.bl false) (.cons (t2.tk (tk_same sz)) .nil)))
            | gone p =>
              obtain ⟨b, xs, rfl, hB, tb⟩ := tx4.ofTup
              obtain ⟨u1, u2, rfl, t1, t2⟩ := tb.of2
              obtain rfl := t1.ofStr
              refine ⟨rfl, .ref b, rfl, b, _, 0, .str "gone", rfl, rfl, hB, rfl, rfl, .ref b, rfl, b, _, 0, .str "gone", rfl, rfl, hB, rfl, rfl, _, rfl, iteF ?_⟩
              refine ⟨.ref b, rfl, b, _, 1, u2, rfl, rfl, hB, rfl, by show 2 ≤ sizeLine; decide, fun z nz => ?_⟩
              have sz := same_new (o := .tup [.bl false, u2]) nz
              exact fin _ z sz nz ⟨_, upd_same⟩ (.tup (SqT.of upd_same) (.cons (.bl false) (.cons (t2.tk (tk_same sz)) .nil)))
            | order x n ks =>
              obtain ⟨b, xs, rfl, hB, tb⟩ := tx4.ofTup
              obtain ⟨u1, r1, rfl, t1, tb⟩ := tb.ofCons
              obtain ⟨u2, u3, u4, rfl, t2, t3, t4⟩ := tb.of3
              obtain rfl := t1.ofStr
              obtain rfl := t2.ofStr
              obtain rfl := t3.ofStr
              refine ⟨rfl, .ref b, rfl, b, _, 0, .str "order", rfl, rfl, hB, rfl, rfl, .ref b, rfl, b, _, 0, .str "order", rfl, rfl, hB, rfl, rfl, _, rfl, iteT ?_⟩
              refine ⟨.ref b, rfl, 1, rfl, 1, rfl, -1, rfl, b, _, rfl, hB, fun z => absurd z.1 (show ¬ HT.sIx 4 0 (some 1) = 0 by decide), fun _ p np => ⟨by show 2 ≤ sizeLine; decide, fun z nz => ?_⟩⟩
              have sp := same_new (o := .tup [.str x, .str n]) np
              have T2 : TV K (upd H6 p (.tup [.str x, .str n])) (.ref p) (.tuple [.str x, .str n]) := .tup (SqT.of upd_same) (.cons (.str x) (.cons (.str n) .nil))
              have sz := same_new (o := .tup [.bl true, .ref p]) nz
              exact fin _ z (sp.trans sz) (none_of sp nz) ⟨_, upd_same⟩ (.tup (SqT.of upd_same) (.cons (.bl true) (.cons (T2.tk (tk_same sz)) .nil)))
          · obtain ⟨s6, bs, hD6, nd6, ex6, tv6⟩ := hP
            rw [lys, List.take_length] at tv6
            have lbs : bs.length = e.length := by
              have := tv6.length
              rwa [List.length_map, List.length_map] at this
            obtain ⟨g, hg, he⟩ := dt_of (f := Dd.k) (tv4.tk (tk_same s6)) nd4
            obtain ⟨g2, hg2, he2⟩ := dt_of (f := Dd.tg) tv6 nd6
            have good : GoodD K H6 (fun a => ((g a).map Dd.k).getD .none) as := by
              refine ⟨fun a ha => ?_, fun a ha => ?_, fun a ha => ?_, fun a ha => ?_, fun a ha b hb => ?_⟩
              · obtain ⟨x, _, e1, e2⟩ := hg a ha
                simp only [e1]
                exact e2
              · obtain ⟨x, _, e1, e2⟩ := hg a ha
                simp only [e1]
                exact x.k_td
              · obtain ⟨x, _, e1, e2⟩ := hg a ha
                simp only [e1]
                exact x.k_dep
              · obtain ⟨x, _, e1, e2⟩ := hg a ha
                simp only [e1]
                exact ⟨_, _, x.k_eq⟩
              · obtain ⟨x, _, e1, e2⟩ := hg a ha
                obtain ⟨y, _, e3, e4⟩ := hg b hb
                simp only [e1, e3]
                exact Dd.k_akin x y
            have psort : as.Pairwise fun a b => ltA (fun a => ((g a).map Dd.k).getD .none) a b = true := by
              have h1 : (as.map g).Pairwise fun x y => lxT (PySem.W.keyToks ((x.map Dd.k).getD .none)) (PySem.W.keyToks ((y.map Dd.k).getD .none)) = true := by
                rw [he]
                exact List.pairwise_map.mpr srt
              exact List.pairwise_map.mp h1
            refine ⟨.ref D2, rfl, .ref D2, rfl, D2, as, _, rfl, SqL.of (s6 _ _ hD4), good, fun zs p hs pm np => ?_⟩
            obtain rfl := sorted_eq pm hs psort
            have sp := same_new (o := .lst (zs.map V.ref)) np
            refine ⟨D2, p, zs, rfl, rfl, SqL.of (sp _ _ (s6 _ _ hD4)), SqL.of upd_same, false, rfl, iteF ?_⟩
            refine ⟨.ref D5, rfl, D5, bs, fun a => ((g2 a).map Dd.tg).getD .none, rfl, SqL.of (sp _ _ hD6), by omega, fun a ha => ?_, ?_, .ref D5, rfl, D5, _, rfl, .inl (SqL.of (sp _ _ hD6)), _, _, rfl, rfl, _, rfl, ite2 (fun z => ?_) (fun _ => ?_)⟩
            · obtain ⟨x, _, e1, e2⟩ := hg2 a ha
              simp only [e1]
              exact ⟨e2.tk (tk_same sp), x.tg_dep⟩
            · have h1 : bs.map (fun a => keyD' (((g2 a).map Dd.tg).getD .none)) = (bs.map g2).map fun x => keyD' ((x.map Dd.tg).getD .none) := by
                rw [List.map_map]
                rfl
              rw [h1, he2, List.map_map]
              exact ndt
            · have := of_decide_eq_true z
              rw [List.length_map] at this
              omega
            · have TV7 : TV K (upd H6 p (.lst (zs.map V.ref))) (.ref t) (.tuple (e.map Dd.d)) := (TV.tup hT3 hys3).tk (tk_same (s4.trans (s6.trans sp)))
              refine ⟨.ref t, rfl, .ref t, e, rfl, TV7, h30, ok, fun H8 s8 => ⟨.str (pT e), rfl, rfl, _, rfl, iteNS rfl ?_⟩⟩
              exact ⟨.ref t, rfl, q _ t (sm3.trans (s4.trans (s6.trans (sp.trans s8)))) (TV7.tk (tk_same s8))⟩
end
end M91

set_option Elab.async false
set_option linter.all false
set_option maxRecDepth 100000
set_option maxHeartbeats 4000000
/-! what the law draws: names, paths, literals -/
namespace M91
open PySem PySem.Spec PyProof.Rows L2 GL TL
theorem scD1 : FnScope ["_law_box_here"] ["_law_box_here"] (defScope sName) := ⟨rfl, rfl, rfl, by decide +kernel, rfl, by decide +kernel, by decide +kernel⟩
theorem scD2 : FnScope ["_law_box_here", "_law_most", "_law_found", "_law_turn", "_law_some"] ["_law_box_here", "_law_most"] (defScope sLabels) := ⟨rfl, rfl, rfl, by decide +kernel, rfl, by decide +kernel, by decide +kernel⟩
theorem scD3 : FnScope ["_law_box_here", "_law_some"] ["_law_box_here"] (defScope sLiteral) := ⟨rfl, rfl, rfl, by decide +kernel, rfl, by decide +kernel, by decide +kernel⟩
section
variable {X : Cx}
/-- s * n -/
theorem op_mulS : OpR X (binaryOp .Mult) (fun x y H Q => ∃ (z : Str) (n : Int), x = .str z ∧ y = .int n ∧ MulOk z n ∧ Q (.str (Txt.mul z n)) H) := by
  intro pins s σ H x y v u Q I rx ry h
  obtain ⟨z, n, rfl, rfl, hok, q⟩ := h
  obtain ⟨t, rfl⟩ := rx
  obtain ⟨t2, rfl⟩ := ry
  exact SB.mul hok fun t' k => ⟨.str _, H, I.tok _, ⟨t', rfl⟩, q⟩
end
theorem box_tk {H H' : Hp} {b : Addr} {n : Nat} (hB : Box H b n) (o : Off b H H') : TK H H' := by
  obtain ⟨_, _, _, h, _⟩ := hB
  exact off_tk h o
section
variable {P : Program} {w : World} {K : PySem.W.Frag} {mg : Str → Option Value} {base : Heap}
def spDName : Sp := fun vs H Q _ => ∃ (b : Addr) (n : Nat), vs = [.ref b] ∧ Box H b n ∧ n < 990000 ∧ ∀ x H', isName x = true → Off b H H' → Box H' b (n + 1) → Q (.str x) H'
theorem ok_dname {f : Addr} {fd : FuncData} (F : Fun K "_law_name" "_law_name" sName f fd) (T : Bl K mg) (d_of : DnG P w K mg base "_law_of" 2 ["_law_box_here", "_law_some"] spOf) : FnG P w K mg base CX0 3 f fd ["_law_box_here"] spDName := by
  refine okG0 F scD1 (fun vs H Q E h => ?_) (fun cdv A outer s H vs Q E hr hG h => ?_)
  · obtain ⟨b, n, rfl, _⟩ := h
    rfl
  · obtain ⟨b, n, rfl, hB, hn, q⟩ := h
    refine ⟨_, (pss_one (ps_ret (pe_callG d_of.ok (hr.mono (by omega)) hG (by rfl) d_of.g d_of.kp d_of.b .nil pass0 (pa_cons (pv 0) (pa_cons (pe_lst (pa_cons pe_str (pa_cons pe_str (pa_cons pe_str (pa_cons pe_str (pa_cons pe_str (pa_cons pe_str (pa_cons pe_str (pa_cons pe_str (pa_cons (pe_op op_add_str pe_str pe_str) (pa_cons pe_str pa_nil))))))))))) pa_nil))))), ?_⟩
    refine ⟨.ref b, rfl, "list", "s", rfl, rfl, by decide, by show 10 ≤ sizeLine; decide, fun l nl => ⟨b, l, _, n, rfl, upd_same, hB.ne nl, hB.new (hB.ne nl), by omega, by show 0 < 10; decide, by show 10 < 1000000; decide, fun x u hx hB2 => ?_⟩⟩
    have all : ∀ v ∈ ([.str "a", .str "b", .str "main", .str "goods", .str "abcdefghijkl", .str "z", .str "number", .str "text", .str ("list" ++ "s"), .str "q"] : List V), ∃ x, v = .str x ∧ isName x = true := by
      repeat first | refine List.forall_mem_cons.mpr ⟨⟨_, rfl, by decide +kernel⟩, ?_⟩ | exact List.forall_mem_nil _
    obtain ⟨x, rfl, nx⟩ := all _ hx
    exact q x _ nx ((Off.new nl).trans Off.box) hB2
def spDLab (K : PySem.W.Frag) : Sp := fun vs H Q _ => ∃ (b : Addr) (n : Nat) (m : Int), vs = [.ref b, .int m] ∧ 0 < m ∧ m ≤ 5 ∧ Box H b n ∧ n < 900000 ∧
  ∀ H' a p, Off b H H' → Box H' b (n + 30) → TV K H' (.ref a) (pathD p) → p ≠ [] → p.length ≤ 6 → (∀ l ∈ p, l.rd []) → Q (.ref a) H'
theorem ok_dlab {f : Addr} {fd : FuncData} (F : Fun K "_law_label_path" "_law_label_path" sLabels f fd) (T : Bl K mg) (d_of : DnG P w K mg base "_law_of" 2 ["_law_box_here", "_law_some"] spOf) (d_take : DnG P w K mg base "_law_take" 1 ["_law_box_here", "_law_many"] spTake)
    (d_name : DnG P w K mg base "_law_name" 3 ["_law_box_here"] spDName) : FnG P w K mg base CX0 4 f fd ["_law_box_here", "_law_most"] (spDLab K) := by
  refine okG0 F scD2 (fun vs H Q E h => ?_) (fun cdv A outer s H vs Q E hr hG h => ?_)
  · obtain ⟨b, n, m, rfl, _⟩ := h
    rfl
  · obtain ⟨b, n, m, rfl, m0, m5, hB, hn, q⟩ := h
    refine ⟨_, (pss_cons (ps_set (i := 2) scD2.nd rfl (Or.inl rfl) (pe_tup (pa_cons (pe_callG d_name.ok (hr.mono (by omega)) hG (by rfl) d_name.g d_name.kp d_name.b .nil pass0 (pa_cons (pv 0) pa_nil)) pa_nil)))
      (pss_cons (ps_for PassesOwn.never rfl (pi_range1 (by rfl) T.range (pa_cons (pe_callG d_take.ok (hr.mono (by omega)) hG (by rfl) d_take.g d_take.kp d_take.b .nil pass0 (pa_cons (pv 0) (pa_cons (pv 1) pa_nil))) pa_nil)) (pg_name (i := 3) scD2.nd rfl (Or.inl rfl))
        (pss_cons (ps_set (i := 4) scD2.nd rfl (Or.inl rfl) (pe_lst (pa_cons (pe_callG d_name.ok (hr.mono (by omega)) hG (by rfl) d_name.g d_name.kp d_name.b .nil pass0 (pa_cons (pv 0) pa_nil)) (pa_cons (pe_callG d_name.ok (hr.mono (by omega)) hG (by rfl) d_name.g d_name.kp d_name.b .nil pass0 (pa_cons (pv 0) pa_nil)) (pa_cons (pe_callG d_take.ok (hr.mono (by omega)) hG (by rfl) d_take.g d_take.kp d_take.b .nil pass0 (pa_cons (pv 0) (pa_cons pe_int pa_nil))) (pa_cons (pe_callG d_of.ok (hr.mono (by omega)) hG (by rfl) d_of.g d_of.kp d_of.b .nil pass0 (pa_cons (pv 0) (pa_cons (pe_lst (pa_cons pe_int (pa_cons pe_int (pa_cons (pe_op op_pow pe_int pe_int) pa_nil)))) pa_nil))) pa_nil))))))
        (pss_one (ps_set (i := 2) scD2.nd rfl (Or.inl rfl) (pe_op (r := rCatA K) op_catA (pv 2) (pe_tup (pa_cons (pe_callG d_of.ok (hr.mono (by omega)) hG (by rfl) d_of.g d_of.kp d_of.b .nil pass0 (pa_cons (pv 0) (pa_cons (pv 4) pa_nil))) pa_nil)))))))
      (pss_one (ps_ret (pv 2))))), ?_⟩
    refine ⟨.ref b, rfl, b, n, rfl, hB, by omega, fun x1 H1 nm1 o1 B1 => ⟨by show 1 ≤ sizeLine; decide, fun a0 na0 => ?_⟩⟩
    have B2 := B1.new (u := .tup [.str x1]) (B1.ne na0)
    refine ⟨.ref b, rfl, .int m, rfl, b, m, _, rfl, B2, by omega, m0, by omega, fun r u r0 r1 B3 => ?_⟩
    obtain ⟨k, rfl⟩ : ∃ k : Nat, r = k := ⟨r.toNat, by omega⟩
    have o3 : Off b H (upd (upd H1 a0 (.tup [.str x1])) b u) := (o1.trans (Off.new na0)).trans Off.box
    have T0 : TV K (upd H1 a0 (.tup [.str x1])) (.ref a0) (pathD [.w x1]) := .tup (SqT.of upd_same) (.cons (.str x1) .nil)
    have T3 := T0.tk (box_tk B2 (Off.box (u := u)))
    generalize upd (upd H1 a0 (.tup [.str x1])) b u = H3 at B3 o3 T3
    refine ⟨k, rfl, by omega, by omega, for_range (lo := 0) (n := k) (fun i σ H4 => ∃ a p y3 y4, σ = [some (.ref b), some (.int m), some (.ref a), y3, y4] ∧ Off b H H4 ∧ Box H4 b (n + 2 + 5 * i) ∧ TV K H4 (.ref a) (pathD p) ∧ p ≠ [] ∧ p.length = i + 1 ∧ ∀ l ∈ p, l.rd [])
      ⟨a0, [.w x1], none, none, rfl, o3, B3, T3, by simp, rfl, fun l hl => ?_⟩ (fun i σ H4 hi hP => ?_) (fun σ H4 hP => ?_)⟩
    · have : l = .w x1 := by simpa using hl
      subst this
      exact .inl nm1
    · obtain ⟨a, p, y3, y4, rfl, o4, B4, tv4, pne, pl, prd⟩ := hP
      refine ⟨.ref b, rfl, b, _, rfl, B4, by omega, fun x5 H5 nm5 o5 B5 => ⟨.ref b, rfl, b, _, rfl, B5, by omega, fun x6 H6 nm6 o6 B6 => ⟨.ref b, rfl, b, 9, _, rfl, B6, by omega, by decide, by decide, fun r7 u7 r70 r71 B7 => ?_⟩⟩⟩
      obtain ⟨k7, rfl⟩ : ∃ k : Nat, r7 = k := ⟨r7.toNat, by omega⟩
      have o7 : Off b H4 (upd H6 b u7) := (o5.trans o6).trans Off.box
      generalize upd H6 b u7 = H7 at B7 o7
      refine ⟨.ref b, rfl, 10, 6, rfl, rfl, ⟨by decide, by decide, by decide⟩, by show 3 ≤ sizeLine; decide, fun l8 nl8 => ⟨b, l8, _, _, rfl, upd_same, B7.ne nl8, B7.new (B7.ne nl8), by omega, by show 0 < 3; decide, by show 3 < 1000000; decide, fun v8 u8 hv8 B8 => ?_⟩⟩
      have o8 : Off b H4 (upd (upd H7 l8 (.lst [.int 10, .int 1000, .int (10 ^ (6 : Int).toNat)])) b u8) := o7.trans ((Off.new nl8).trans Off.box)
      obtain ⟨k8, rfl, hk8⟩ : ∃ k : Nat, v8 = .int k ∧ k < 2 ^ 60 := by
        have all : ∀ v ∈ ([.int 10, .int 1000, .int (10 ^ (6 : Int).toNat)] : List V), ∃ k : Nat, v = .int k ∧ k < 2 ^ 60 := by
          refine List.forall_mem_cons.mpr ⟨⟨10, rfl, by decide⟩, List.forall_mem_cons.mpr ⟨⟨1000, rfl, by decide⟩, List.forall_mem_cons.mpr ⟨⟨10 ^ 6, rfl, by decide⟩, fun _ h => nomatch h⟩⟩⟩
        exact all _ hv8
      generalize upd (upd H7 l8 (.lst [.int 10, .int 1000, .int (10 ^ (6 : Int).toNat)])) b u8 = H8 at B8 o8
      refine ⟨by show 4 ≤ sizeLine; decide, fun l9 nl9 => ?_⟩
      have B9 := B8.new (u := .lst [.str x5, .str x6, .int k7, .int k8]) (B8.ne nl9)
      refine ⟨.ref a, rfl, .ref b, rfl, .ref l9, rfl, b, l9, _, _, rfl, upd_same, B8.ne nl9, B9, by omega, by show 0 < 4; decide, by show 4 < 1000000; decide, fun v10 u10 hv10 B10 => ?_⟩
      have o10 : Off b H4 (upd (upd H8 l9 (.lst [.str x5, .str x6, .int k7, .int k8])) b u10) := o8.trans ((Off.new nl9).trans Off.box)
      obtain ⟨lb, rfl, hlb⟩ : ∃ lb : Lab, v10 = lb.v ∧ lb.rd [] := by
        have all : ∀ v ∈ ([.str x5, .str x6, .int k7, .int k8] : List V), ∃ lb : Lab, v = lb.v ∧ lb.rd [] := by
          refine List.forall_mem_cons.mpr ⟨⟨.w x5, rfl, .inl nm5⟩, List.forall_mem_cons.mpr ⟨⟨.w x6, rfl, .inl nm6⟩, List.forall_mem_cons.mpr ⟨⟨.n k7, rfl, ?_⟩, List.forall_mem_cons.mpr ⟨⟨.n k8, rfl, hk8⟩, fun _ h => nomatch h⟩⟩⟩⟩
          show k7 < 2 ^ 60
          omega
        exact all _ hv10
      have tv10 := tv4.tk (box_tk B4 o10)
      generalize upd (upd H8 l9 (.lst [.str x5, .str x6, .int k7, .int k8])) b u10 = H10 at B10 o10 tv10
      refine ⟨by show 1 ≤ sizeLine; decide, fun t11 nt11 => ?_⟩
      have s11 := same_new (o := .tup [lb.v]) nt11
      obtain ⟨a', xs, ea, hT, ts⟩ := tv10.ofTup
      obtain rfl : a = a' := by injection ea
      obtain rfl := ts.labs
      have pne2 : p.map Lab.v ≠ [] := by simpa using pne
      refine ⟨a, t11, _, _, rfl, rfl, SqT.tk (tk_same s11) hT, SqT.of upd_same, ?_, fun z => absurd z pne2, fun _ z => (by cases z), fun _ _ p12 np12 => ?_⟩
      · rw [List.length_map]
        exact big_le (by show p.length + 1 ≤ _; omega)
      · have s12 := same_new (o := .tup (p.map Lab.v ++ [lb.v])) np12
        have B11 := B10.new (u := .tup [lb.v]) (B10.ne nt11)
        refine ⟨p12, p ++ [lb], _, _, rfl, o4.trans (o10.trans (off_same (s11.trans s12))), (B11.new (B11.ne np12)).mono (by omega), ?_, by simp, by rw [List.length_append, pl]; rfl, fun l hl => ?_⟩
        · have e : (p ++ [lb]).map Lab.v = p.map Lab.v ++ [lb.v] := by
            rw [List.map_append]
            rfl
          have hT12 : SqT K (upd (upd H10 t11 (.tup [lb.v])) p12 (.tup (p.map Lab.v ++ [lb.v]))) p12 ((p ++ [lb]).map Lab.v) := by
            rw [e]
            exact SqT.of upd_same
          exact .tup hT12 (labs_tv (p ++ [lb]))
        · rcases List.mem_append.mp hl with hl | hl
          · exact prd l hl
          · have : l = lb := by simpa using hl
            subst this
            exact hlb
    · obtain ⟨a, p, y3, y4, rfl, o4, B4, tv4, pne, pl, prd⟩ := hP
      exact ⟨.ref a, rfl, q H4 a p o4 (B4.mono (by omega)) tv4 pne (by omega) prd⟩
/-- a literal that is drawn -/
def spDLit : Sp := fun vs H Q _ => ∃ (b : Addr) (n : Nat), vs = [.ref b] ∧ Box H b n ∧ n < 990000 ∧ ∀ (l : Lit) H', l.ok → l.rd → Off b H H' → Box H' b (n + 2) → Q l.v H'
theorem part_dec {z : Str} (h : (decide (z.length ≤ 60) && (cs z).all fun c => decide (32 ≤ c ∧ c ≤ 126 ∧ c ≠ 34 ∧ c ≠ 92)) = true) : Part z := by
  obtain ⟨h1, h2⟩ := Bool.and_eq_true_iff.mp h
  exact ⟨of_decide_eq_true h1, fun c hc => of_decide_eq_true (List.all_eq_true.mp h2 c hc)⟩
theorem lit_s {z : Str} (h : (decide (z.length ≤ 60) && (cs z).all fun c => decide (32 ≤ c ∧ c ≤ 126 ∧ c ≠ 34 ∧ c ≠ 92)) = true) : ∃ l : Lit, V.str z = l.v ∧ l.ok ∧ l.rd := ⟨.s z, rfl, (part_dec h).1, part_dec h⟩
theorem lit_i {i : Int} (h : i.natAbs < 2 ^ 60) : ∃ l : Lit, V.int i = l.v ∧ l.ok ∧ l.rd := ⟨.i i, rfl, h, h⟩
theorem ok_dlit {f : Addr} {fd : FuncData} (F : Fun K "_law_literal" "_law_literal" sLiteral f fd) (T : Bl K mg) (d_of : DnG P w K mg base "_law_of" 2 ["_law_box_here", "_law_some"] spOf) (d_take : DnG P w K mg base "_law_take" 1 ["_law_box_here", "_law_many"] spTake) : FnG P w K mg base CX0 3 f fd ["_law_box_here"] spDLit := by
  refine okG0 F scD3 (fun vs H Q E h => ?_) (fun cdv A outer s H vs Q E hr hG h => ?_)
  · obtain ⟨b, n, rfl, _⟩ := h
    rfl
  · obtain ⟨b, n, rfl, hB, hn, q⟩ := h
    refine ⟨_, (pss_cons (ps_set (i := 1) scD3.nd rfl (Or.inl rfl) (pe_lst (pa_cons pe_int (pa_cons pe_int (pa_cons (pe_un un_neg pe_int) (pa_cons (pe_un un_neg pe_int) (pa_cons (pe_op op_pow pe_int pe_int) (pa_cons (pe_op op_sub (pe_callG d_take.ok (hr.mono (by omega)) hG (by rfl) d_take.g d_take.kp d_take.b .nil pass0 (pa_cons (pv 0) (pa_cons pe_int pa_nil))) pe_int) (pa_cons pe_str (pa_cons pe_str (pa_cons pe_str (pa_cons pe_str pa_nil))))))))))))
      (pss_one (ps_ret (pe_callG d_of.ok (hr.mono (by omega)) hG (by rfl) d_of.g d_of.kp d_of.b .nil pass0 (pa_cons (pv 0) (pa_cons (pe_op op_cat (pv 1) (pe_lst (pa_cons pe_str (pa_cons pe_str (pa_cons pe_str (pa_cons pe_str (pa_cons pe_str (pa_cons pe_str (pa_cons pe_str (pa_cons (pe_op op_mulS pe_str pe_int) pa_nil)))))))))) pa_nil)))))), ?_⟩
    refine ⟨1, rfl, 999, rfl, 10, 8, rfl, rfl, ⟨by decide, by decide, by decide⟩, .ref b, rfl, b, 1000, n, rfl, hB, by omega, by decide, by decide, fun r u r0 r1 B1 => ⟨r, 500, rfl, rfl, by show 10 ≤ sizeLine; decide, fun l2 nl2 => ?_⟩⟩
    have B2 := B1.new (u := .lst [.int 0, .int 7, .int (-1), .int (-999), .int (10 ^ (8 : Int).toNat), .int (r - 500), .str "", .str "x", .str "a; b", .str "{ }"]) (B1.ne nl2)
    refine ⟨.ref b, rfl, .ref l2, rfl, "x", 60, rfl, rfl, ⟨by decide, by decide +kernel, by decide +kernel⟩, by show 8 ≤ sizeLine; decide, fun l3 nl3 => ?_⟩
    have B3 := B2.new (u := .lst [.str "[ #1 ]", .str " | ", .str "-", .str "#", .str "  ", .str "-0", .str "~!/.:", .str (Txt.mul "x" 60)]) (B2.ne nl3)
    have n32 : l2 ≠ l3 := ne_of_none (upd_same (H := upd H b u) (a := l2) (o := .lst [.int 0, .int 7, .int (-1), .int (-999), .int (10 ^ (8 : Int).toNat), .int (r - 500), .str "", .str "x", .str "a; b", .str "{ }"])) nl3
    refine ⟨l2, l3, _, _, rfl, rfl, by rw [upd_ne n32]; exact upd_same, upd_same, by show 10 + 8 ≤ sizeLine; decide, fun l4 nl4 => ⟨b, l4, _, _, rfl, upd_same, B3.ne nl4, B3.new (B3.ne nl4), by omega, by show 0 < 18; decide, by show 18 < 1000000; decide, fun v5 u5 hv5 B5 => ?_⟩⟩
    have all : ∀ v ∈ ([.int 0, .int 7, .int (-1), .int (-999), .int (10 ^ (8 : Int).toNat), .int (r - 500), .str "", .str "x", .str "a; b", .str "{ }", .str "[ #1 ]", .str " | ", .str "-", .str "#", .str "  ", .str "-0", .str "~!/.:", .str (Txt.mul "x" 60)] : List V), ∃ l : Lit, v = l.v ∧ l.ok ∧ l.rd := by
      repeat first | refine List.forall_mem_cons.mpr ⟨lit_s (by decide +kernel), ?_⟩ | refine List.forall_mem_cons.mpr ⟨lit_i (by decide +kernel), ?_⟩ | refine List.forall_mem_cons.mpr ⟨lit_i (by omega), ?_⟩ | exact List.forall_mem_nil _
    obtain ⟨l, rfl, lo, lr⟩ := all _ hv5
    exact q l _ lo lr ((((Off.box (H := H) (u := u)).trans (Off.new nl2)).trans (Off.new nl3)).trans ((Off.new nl4).trans Off.box)) B5
end
end M91

set_option Elab.async false
set_option linter.all false
set_option maxRecDepth 100000
set_option maxHeartbeats 4000000
/-! what the law draws: records -/
namespace M91
open PySem PySem.Spec PyProof.Rows L2 GL TL
theorem scD4 : FnScope ["_law_box_here", "_law_deep", "_law_found", "_law_turn", "_law_way", "_law_value", "_law_other"] ["_law_box_here", "_law_deep"] (defScope sRecord) := ⟨rfl, rfl, rfl, by decide +kernel, rfl, by decide +kernel, by decide +kernel⟩
/-- a statement, then others -/
theorem seq_any {t u : TS} {D : Ends} {σ : L2.St} {H : Hp} {R : L2.St → Hp → Prop} (h : ∀ N : L2.St → Hp → Prop, (∀ σ' H', R σ' H' → N σ' H') → t { D with nx := N } σ H) (q : ∀ σ' H', R σ' H' → u D σ' H') : tSeq t u D σ H := h _ q
def fD (x : Str × Wo) : PyData := .tuple [.str x.1, x.2.d]
def rD (x : Nat × Rc) : PyData := .tuple [.int (x.1 : Nat), .tuple x.2.ds]
def Rc.of : List (Str × Wo) → Rc
  | [] => .nil
  | (n, w) :: l => .cons n w (Rc.of l)
def Rw.of : List (Nat × Rc) → Rw
  | [] => .nil
  | (k, r) :: l => .cons k r (Rw.of l)
theorem Rc.of_ds : ∀ l, (Rc.of l).ds = l.map fD
  | [] => rfl
  | (n, w) :: l => by
    show PyData.tuple [.str n, w.d] :: (Rc.of l).ds = _
    rw [Rc.of_ds l]
    rfl
theorem Rw.of_ds : ∀ l, (Rw.of l).ds = l.map rD
  | [] => rfl
  | (k, r) :: l => by
    show PyData.tuple [.int (k : Nat), .tuple r.ds] :: (Rw.of l).ds = _
    rw [Rw.of_ds l]
    rfl
/-- a field of a drawn record; m: how long its value's text is at most -/
structure Fd (d m : Nat) (x : Str × Wo) : Prop where
  nm : isName x.1 = true
  ok : x.2.ok
  rd : x.2.rd
  h : x.2.h ≤ d
  m : x.2.m ≤ m
/-- a drawn record -/
structure RcD (d m : Nat) (r : Rc) : Prop where
  ok : r.ok
  rd : r.rd
  h : r.h ≤ d
  m : r.m ≤ m
theorem Rc.of_good {d m : Nat} : ∀ {l : List (Str × Wo)}, (∀ x ∈ l, Fd d m x) → RcD d ((15 + m) * l.length) (Rc.of l)
  | [], _ => ⟨trivial, trivial, Nat.zero_le _, Nat.zero_le _⟩
  | (n, w) :: l, h => by
    have h1 := h (n, w) (List.mem_cons_self ..)
    have h2 := Rc.of_good (l := l) fun x hx => h x (List.mem_cons_of_mem _ hx)
    have h3 := (name_low h1.nm).2.2
    refine ⟨⟨by show n.length ≤ 60; have h3 : n.length ≤ 12 := h3; omega, h1.ok, h2.ok⟩, ⟨h1.nm, h1.rd, h2.rd⟩, ?_, ?_⟩
    · show max w.h (Rc.of l).h ≤ d
      have q1 : w.h ≤ d := h1.h
      have q2 := h2.h
      omega
    · show n.length + 3 + w.m + (Rc.of l).m ≤ (15 + m) * (l.length + 1)
      have h4 : w.m ≤ m := h1.m
      have h5 := h2.m
      have h3 : n.length ≤ 12 := h3
      rw [Nat.mul_add, Nat.mul_one]
      omega
structure RwD (d m : Nat) (x : Nat × Rc) : Prop where
  k : x.1 < 30
  r : RcD d m x.2
theorem Rw.of_good {d m : Nat} : ∀ {l : List (Nat × Rc)}, (∀ x ∈ l, RwD d m x) → (Rw.of l).ok ∧ (Rw.of l).rd ∧ (Rw.of l).h ≤ d ∧ (Rw.of l).m ≤ (37 + m) * l.length
  | [], _ => ⟨trivial, trivial, Nat.zero_le _, Nat.zero_le _⟩
  | (k, r) :: l, h => by
    have h1 := h (k, r) (List.mem_cons_self ..)
    obtain ⟨g1, g2, g3, g4⟩ := Rw.of_good (l := l) fun x hx => h x (List.mem_cons_of_mem _ hx)
    have hk : k < 30 := h1.k
    have hk2 : k < 2 ^ 60 := by omega
    refine ⟨⟨hk2, h1.r.ok, g1⟩, ⟨hk2, h1.r.rd, g2⟩, ?_, ?_⟩
    · show max r.h (Rw.of l).h ≤ d
      have q1 : r.h ≤ d := h1.r.h
      omega
    · show (nT k).length + 7 + r.m + (Rw.of l).m ≤ (37 + m) * (l.length + 1)
      have h5 := nT_len (k := (k : Int)) (by simpa using hk2)
      have h6 : r.m ≤ m := h1.r.m
      rw [Nat.mul_add, Nat.mul_one]
      omega
/-- a record as a value -/
def woR : Rc → Wo
  | .nil => .rw .nil
  | r => .rc r
theorem woR_d (r : Rc) : (woR r).d = .tuple r.ds := by
  cases r with
  | nil => rfl
  | cons n w r => rfl
theorem woR_good {d m : Nat} {r : Rc} (h : RcD d m r) : (woR r).ok ∧ (woR r).rd ∧ (woR r).h ≤ d + 1 ∧ (woR r).m ≤ 4 + m := by
  cases r with
  | nil => exact ⟨trivial, trivial, Nat.succ_le_succ (Nat.zero_le _), Nat.le_add_right _ _⟩
  | cons n w r => exact ⟨⟨(fun z => by cases z), h.ok⟩, h.rd, Nat.succ_le_succ h.h, Nat.add_le_add_left h.m 4⟩
/-- how many draws, how long, at most: by how deep -/
def cR : Nat → Nat
  | 0 => 0
  | d + 1 => 1 + 3 * (7 + 2 * cR d)
def mR : Nat → Nat
  | 0 => 0
  | d + 1 => 3 * (15 + (78 + 2 * mR d))
section
variable {P : Program} {w : World} {K : PySem.W.Frag} {mg : Str → Option Value} {base : Heap}
/-- the record that is drawn d - 1 deep -/
def spDRec (K : PySem.W.Frag) : Nat → Sp
  | 0 => fun _ _ _ _ => False
  | d + 1 => fun vs H Q _ => ∃ (b : Addr) (n : Nat), vs = [.ref b, .int (d : Nat)] ∧ Box H b n ∧ n + cR (d + 1) < 900000 ∧ ∀ H' a r, Off b H H' → Box H' b (n + cR (d + 1)) → TV K H' (.ref a) (.tuple r.ds) → RcD d (mR (d + 1)) r → Q (.ref a) H'
/-- the value of a field, as drawn -/
def ValAt (K : PySem.W.Frag) (d m : Nat) (H : Hp) (v : V) : Prop := ∃ wo : Wo, TV K H v wo.d ∧ wo.ok ∧ wo.rd ∧ wo.h ≤ d ∧ wo.m ≤ m
theorem ValAt.tk {d m : Nat} {H H' : Hp} {v : V} (h : ValAt K d m H v) (t : TK H H') : ValAt K d m H' v := by
  obtain ⟨wo, h1, h2⟩ := h
  exact ⟨wo, h1.tk t, h2⟩
theorem ok_drec {d : Nat} {f : Addr} {fd : FuncData} (F : Fun K "_law_record" "_law_record" sRecord f fd) (T : Bl K mg) (d_take : DnG P w K mg base "_law_take" 1 ["_law_box_here", "_law_many"] spTake) (d_name : DnG P w K mg base "_law_name" 3 ["_law_box_here"] spDName)
    (d_literal : DnG P w K mg base "_law_literal" 3 ["_law_box_here"] spDLit) (d_record : DnG P w K mg base "_law_record" (3 + d) ["_law_box_here", "_law_deep"] (spDRec K d)) : FnG P w K mg base CX0 (4 + d) f fd ["_law_box_here", "_law_deep"] (spDRec K (d + 1)) := by
  rw [show 4 + d = (3 + d) + 1 by omega]
  refine okG0 F scD4 (fun vs H Q E h => ?_) (fun cdv A outer s H vs Q E hr hG h => ?_)
  · obtain ⟨b, n, rfl, _⟩ := h
    rfl
  · obtain ⟨b, n, rfl, hB, hn, q⟩ := h
    have cE : cR (d + 1) = 1 + 3 * (7 + 2 * cR d) := rfl
    have mE : mR (d + 1) = 3 * (15 + (78 + 2 * mR d)) := rfl
    refine ⟨_, (pss_cons (ps_set (i := 2) scD4.nd rfl (Or.inl rfl) (pe_tup pa_nil))
      (pss_cons (ps_for PassesOwn.never rfl (pi_range1 (by rfl) T.range (pa_cons (pe_callG d_take.ok (hr.mono (by omega)) hG (by rfl) d_take.g d_take.kp d_take.b .nil pass0 (pa_cons (pv 0) (pa_cons pe_int pa_nil))) pa_nil)) (pg_name (i := 3) scD4.nd rfl (Or.inl rfl))
        (pss_cons (ps_set (i := 4) scD4.nd rfl (Or.inl rfl) (pe_ifExp (pt_cmpR op_gt (pv 1) pe_int (nomark _)) (pe_callG d_take.ok (hr.mono (by omega)) hG (by rfl) d_take.g d_take.kp d_take.b .nil pass0 (pa_cons (pv 0) (pa_cons pe_int pa_nil))) pe_int))
        (pss_cons (ps_set (i := 5) scD4.nd rfl (Or.inl rfl) (pe_callG d_literal.ok (hr.mono (by omega)) hG (by rfl) d_literal.g d_literal.kp d_literal.b .nil pass0 (pa_cons (pv 0) pa_nil)))
        (pss_cons (ps_if (pt_cmpR op_eq (pv 4) pe_int (nomark _))
          (pss_one (ps_set (i := 5) scD4.nd rfl (Or.inl rfl) (pe_callG d_record.ok (hr.mono (by omega)) hG (by rfl) d_record.g d_record.kp d_record.b .nil pass0 (pa_cons (pv 0) (pa_cons (pe_op op_sub (pv 1) pe_int) pa_nil)))))
          pss_nil)
        (pss_cons (ps_if (pt_cmpR op_eq (pv 4) pe_int (nomark _))
          (pss_one (ps_set (i := 5) scD4.nd rfl (Or.inl rfl) (pe_callTy call_tuple_of (by rfl) T.tuple (by decide +kernel) (pa_cons (pe_lc (own := [("_law_other", 6)]) (g := gName 6) (by rfl) scD4.nd (pi_range1 (by rfl) T.range (pa_cons (pe_callG d_take.ok (hr.mono (by omega)) hG (by rfl) d_take.g d_take.kp d_take.b .nil pass0 (pa_cons (pv 0) (pa_cons pe_int pa_nil))) pa_nil)) (blkOk_by (own := [("_law_other", 6)]) (N := ["_law_box_here", "_law_deep", "_law_found", "_law_turn", "_law_way", "_law_value", "_law_other"]) (sc := defScope sRecord) (by decide +kernel)) (fun _ _ _ _ _ => (pg_name (i := 6) scD4.nd rfl (Or.inl rfl))) (fun _ _ _ _ _ => pts_nil) (fun _ _ _ _ _ => (pe_tup (pa_cons (pe_callG d_take.ok (hr.mono (by omega)) hG (by rfl) d_take.g d_take.kp d_take.b .nil pass0 (pa_cons (pv 0) (pa_cons pe_int pa_nil))) (pa_cons (pe_callG d_record.ok (hr.mono (by omega)) hG (by rfl) d_record.g d_record.kp d_record.b .nil pass0 (pa_cons (pv 0) (pa_cons (pe_op op_sub (pv 1) pe_int) pa_nil))) pa_nil))))) pa_nil))))
          pss_nil)
        (pss_one (ps_set (i := 2) scD4.nd rfl (Or.inl rfl) (pe_op (r := rCatA K) op_catA (pv 2) (pe_tup (pa_cons (pe_tup (pa_cons (pe_callG d_name.ok (hr.mono (by omega)) hG (by rfl) d_name.g d_name.kp d_name.b .nil pass0 (pa_cons (pv 0) pa_nil)) (pa_cons (pv 5) pa_nil))) pa_nil))))))))))
      (pss_one (ps_ret (pv 2))))), ?_⟩
    refine ⟨by show 0 ≤ sizeLine; decide, fun a0 na0 => ?_⟩
    have B0 := hB.new (u := .tup []) (hB.ne na0)
    refine ⟨.ref b, rfl, b, 4, n, rfl, B0, by omega, by decide, by decide, fun r u r0 r1 B1 => ?_⟩
    obtain ⟨k, rfl⟩ : ∃ k : Nat, r = k := ⟨r.toNat, by omega⟩
    have o1 : Off b H (upd (upd H a0 (.tup [])) b u) := (Off.new na0).trans Off.box
    have T1 : TV K (upd (upd H a0 (.tup [])) b u) (.ref a0) (.tuple ([] : List PyData)) := (TV.tup (K := K) (H := upd H a0 (.tup [])) (a := a0) (SqT.of upd_same) .nil).tk (box_tk B0 Off.box)
    generalize upd (upd H a0 (.tup [])) b u = H1 at B1 o1 T1
    refine ⟨k, rfl, by omega, by omega, for_range (lo := 0) (n := k) (fun i σ H2 => ∃ a l y3 y4 y5 y6, σ = [some (.ref b), some (.int (d : Nat)), some (.ref a), y3, y4, y5, y6] ∧ Off b H H2 ∧ Box H2 b (n + 1 + i * (7 + 2 * cR d)) ∧ TV K H2 (.ref a) (.tuple (l.map fD)) ∧ l.length = i ∧ ∀ x ∈ l, Fd d (78 + 2 * mR d) x)
      ⟨a0, [], none, none, none, none, rfl, o1, B1.mono (by omega), T1, rfl, fun x hx => nomatch hx⟩ (fun i σ H2 hi hP => ?_) (fun σ H2 hP => ?_)⟩
    · obtain ⟨a, l, y3, y4, y5, y6, rfl, o2, B2, tv2, ll, lg⟩ := hP
      have i3 : i ≤ 2 := by omega
      have hc : n + 1 + i * (7 + 2 * cR d) + (7 + 2 * cR d) ≤ n + cR (d + 1) := by
        have : i * (7 + 2 * cR d) ≤ 2 * (7 + 2 * cR d) := Nat.mul_le_mul_right _ i3
        omega
      generalize hN : n + 1 + i * (7 + 2 * cR d) = N at B2 hc
      refine asg_any (R := fun v H3 => ∃ kw : Int, v = .int kw ∧ Off b H2 H3 ∧ Box H3 b (N + 1) ∧ (d = 0 → kw = 0)) (fun Q' q' => ?_) (fun v H3 hv => ?_)
      · refine ⟨.int (d : Nat), rfl, (d : Nat), 0, rfl, rfl, _, rfl, ite2 (fun e => ?_) (fun e => ?_)⟩
        · have e : (0 : Int) < (d : Nat) := of_decide_eq_true e
          exact ⟨.ref b, rfl, b, 4, N, rfl, B2, by omega, by decide, by decide, fun r u r0 r1 B3 => q' _ _ ⟨r, rfl, Off.box, B3, fun z => by omega⟩⟩
        · exact q' _ _ ⟨0, rfl, Off.refl _ _, B2.mono (by omega), fun _ => rfl⟩
      · obtain ⟨kw, rfl, o3, B3, hk0⟩ := hv
        refine ⟨.ref b, rfl, b, _, rfl, B3, by omega, fun lt H4 lok lrd o4 B4 => ?_⟩
        have val4 : ValAt K d (78 + 2 * mR d) H4 lt.v := by
          refine ⟨.lit lt, lt.tv, lok, lrd, Nat.zero_le _, ?_⟩
          have := Lit.len lok
          show lt.t.length ≤ _
          omega
        dsimp only
        refine seq_any (R := fun σ' H5 => ∃ v, σ' = [some (.ref b), some (.int (d : Nat)), some (.ref a), some (.int (0 + (i : Nat))), some (.int kw), some v, y6] ∧ Off b H4 H5 ∧ ValAt K d (78 + 2 * mR d) H5 v ∧ Box H5 b (if kw = 2 then N + 3 + cR d else N + 3)) (fun M hM => ?_) (fun σ' H5 hR => ?_)
        · refine ⟨.int kw, rfl, rfl, _, rfl, ite2 (fun e => ?_) (fun e => ?_)⟩
          · have e2 : kw = 2 := by
              have := of_decide_eq_true e
              injection this
            cases d with
            | zero => exact absurd (hk0 rfl) (by omega)
            | succ d =>
              refine ⟨.ref b, rfl, .int ((d + 1 : Nat) : Int), rfl, ((d + 1 : Nat) : Int), 1, rfl, rfl, b, N + 3, ?_, B4, by omega, fun H5 a5 rc o5 B5 tv5 g5 => ?_⟩
              · show [V.ref b, V.int (((d + 1 : Nat) : Int) - 1)] = _
                rw [show ((d + 1 : Nat) : Int) - 1 = (d : Nat) by omega]
              · refine hM _ _ ⟨.ref a5, rfl, o5, ⟨woR rc, ?_, ?_⟩, ?_⟩
                · rw [woR_d]
                  exact tv5
                · obtain ⟨g1, g2, g3, g4⟩ := woR_good g5
                  exact ⟨g1, g2, g3, by omega⟩
                · rw [if_pos e2]
                  exact B5
          · refine hM _ _ ⟨lt.v, rfl, Off.refl _ _, val4, ?_⟩
            rw [if_neg fun z => e (decide_eq_true (by rw [z]))]
            exact B4
        · obtain ⟨v5, rfl, o5, val5, B5⟩ := hR
          refine seq_any (R := fun σ' H6 => ∃ v, σ' = [some (.ref b), some (.int (d : Nat)), some (.ref a), some (.int (0 + (i : Nat))), some (.int kw), some v, y6] ∧ Off b H5 H6 ∧ ValAt K d (78 + 2 * mR d) H6 v ∧ Box H6 b (N + 6 + 2 * cR d)) (fun M hM => ?_) (fun σ' H6 hR => ?_)
          · refine ⟨.int kw, rfl, rfl, _, rfl, ite2 (fun e => ?_) (fun e => ?_)⟩
            · have e2 : kw = 3 := by
                have := of_decide_eq_true e
                injection this
              rw [if_neg (by omega)] at B5
              cases d with
              | zero => exact absurd (hk0 rfl) (by omega)
              | succ d =>
                refine ⟨.ref b, rfl, b, 3, N + 3, rfl, B5, by omega, by decide, by decide, fun r6 u6 r60 r61 B6 => ?_⟩
                obtain ⟨k6, rfl⟩ : ∃ k : Nat, r6 = k := ⟨r6.toNat, by omega⟩
                have o6 : Off b H5 (upd H5 b u6) := Off.box
                generalize upd H5 b u6 = H6 at B6 o6
                refine ⟨k6, rfl, by omega, by omega, fun D nD => ?_⟩
                have bD := B6.ne nD
                refine lc_range (lo := 0) (n := k6) (fun j H7 => ∃ (ys : List V) (rl : List (Nat × Rc)), H7 D = some (.lst ys) ∧ TVs K H7 ys (rl.map rD) ∧ rl.length = j ∧ (∀ x ∈ rl, RwD d (mR (d + 1)) x) ∧ Off b H6 H7 ∧ Box H7 b (N + 4 + j * (1 + cR (d + 1)))) ⟨[], [], upd_same, .nil, rfl, (fun x hx => nomatch hx), Off.new nD, (B6.new bD).mono (by omega)⟩ (fun j H7 hj hP => ?_) (fun H7 hP => ?_)
                · obtain ⟨ys, rl, hD7, tv7, rll, rg, o7, B7⟩ := hP
                  have hj2 : j ≤ 1 := by omega
                  have hcj : N + 4 + j * (1 + cR (d + 1)) + (1 + cR (d + 1)) ≤ N + 6 + 2 * cR (d + 1) := by
                    have : j * (1 + cR (d + 1)) ≤ 1 * (1 + cR (d + 1)) := Nat.mul_le_mul_right _ hj2
                    omega
                  generalize hM2 : N + 4 + j * (1 + cR (d + 1)) = M2 at B7 hcj
                  refine ⟨rfl, .ref b, rfl, b, 30, M2, rfl, B7, by omega, by decide, by decide, fun r8 u8 r80 r81 B8 => ?_⟩
                  obtain ⟨k8, rfl⟩ : ∃ k : Nat, r8 = k := ⟨r8.toNat, by omega⟩
                  refine ⟨.ref b, rfl, .int ((d + 1 : Nat) : Int), rfl, ((d + 1 : Nat) : Int), 1, rfl, rfl, b, M2 + 1, ?_, B8, by omega, fun H9 a9 rc o9 B9 tv9 g9 => ⟨by show 2 ≤ sizeLine; decide, fun t10 nt10 => ?_⟩⟩
                  · show [V.ref b, V.int (((d + 1 : Nat) : Int) - 1)] = _
                    rw [show ((d + 1 : Nat) : Int) - 1 = (d : Nat) by omega]
                  · have o79 : Off b H7 H9 := Off.box.trans o9
                    have hD9 := o79 _ _ bD hD7
                    have s10 := same_new (o := .tup [.int (k8 : Nat), .ref a9]) nt10
                    have hD10 := s10 _ _ hD9
                    have tk10 : TK H9 (upd H9 t10 (.tup [.int (k8 : Nat), .ref a9])) := tk_same s10
                    have tkD : TK (upd H9 t10 (.tup [.int (k8 : Nat), .ref a9])) (upd (upd H9 t10 (.tup [.int (k8 : Nat), .ref a9])) D (.lst (ys ++ [.ref t10]))) := tk_lst (TK.refl _) hD10
                    have ly : ys.length = j := by rw [tv7.length, List.length_map, rll]
                    have T10 : TV K (upd H9 t10 (.tup [.int (k8 : Nat), .ref a9])) (.ref t10) (rD (k8, rc)) := .tup (SqT.of upd_same) (.cons (.int (k8 : Nat)) (.cons (tv9.tk tk10) .nil))
                    refine ⟨ys, hD10, ?_, ys ++ [.ref t10], rl ++ [(k8, rc)], upd_same, ?_, by rw [List.length_append, rll]; rfl, fun x hx => ?_, ?_, ?_⟩
                    · exact Nat.lt_of_lt_of_le (by omega : ys.length < 1001) (big_le (n := 1001) (by decide))
                    · rw [List.map_append]
                      exact (((tv7.tk (box_tk B7 o79)).tk tk10).tk tkD).app (.cons (T10.tk tkD) .nil)
                    · rcases List.mem_append.mp hx with hx | hx
                      · exact rg x hx
                      · obtain rfl : x = (k8, rc) := by simpa using hx
                        exact ⟨by show k8 < 30; omega, g9⟩
                    · exact (o7.trans (o79.trans (off_same s10))).put nD
                    · have B10 := (B9.new (u := .tup [.int (k8 : Nat), .ref a9]) (B9.ne nt10)).new (u := .lst (ys ++ [.ref t10])) bD
                      refine B10.mono ?_
                      rw [← hM2, Nat.add_mul, Nat.one_mul]
                      omega
                · obtain ⟨ys, rl, hD7, tv7, rll, rg, o7, B7⟩ := hP
                  refine ⟨D, ys, rfl, .inl ⟨SqL.of hD7, fun t8 nt8 => ?_⟩⟩
                  have s8 := same_new (o := .tup ys) nt8
                  obtain ⟨g1, g2, g3, g4⟩ := Rw.of_good rg
                  have hj2 : k6 ≤ 2 := by omega
                  refine hM _ _ ⟨.ref t8, rfl, o6.trans (o7.trans (off_same s8)), ⟨.rw (Rw.of rl), ?_, g1, g2, Nat.succ_le_succ g3, ?_⟩, ?_⟩
                  · show TV K _ _ (.tuple (Rw.of rl).ds)
                    rw [Rw.of_ds]
                    exact .tup (SqT.of upd_same) (tv7.tk (tk_same s8))
                  · show 4 + (Rw.of rl).m ≤ _
                    have : (37 + mR (d + 1)) * rl.length ≤ (37 + mR (d + 1)) * 2 := Nat.mul_le_mul_left _ (by omega)
                    omega
                  · refine (B7.new (B7.ne nt8)).mono ?_
                    have : k6 * (1 + cR (d + 1)) ≤ 2 * (1 + cR (d + 1)) := Nat.mul_le_mul_right _ hj2
                    omega
            · refine hM _ _ ⟨v5, rfl, Off.refl _ _, val5, B5.mono ?_⟩
              split <;> omega
          · obtain ⟨v6, rfl, o6, val6, B6⟩ := hR
            have o26 : Off b H2 H6 := o3.trans (o4.trans (o5.trans o6))
            refine ⟨.ref a, rfl, .ref b, rfl, b, _, rfl, B6, by omega, fun x7 H7 nm7 o7 B7 => ⟨v6, rfl, by show 2 ≤ sizeLine; decide, fun t8 nt8 => ⟨by show 1 ≤ sizeLine; decide, fun t9 nt9 => ?_⟩⟩⟩
            have s8 := same_new (o := .tup [.str x7, v6]) nt8
            have s9 := same_new (o := .tup [.ref t8]) nt9
            have tv7 := tv2.tk (box_tk B2 (o26.trans o7))
            obtain ⟨wo, w1, w2, w3, w4, w5⟩ := val6
            have T8 : TV K (upd H7 t8 (.tup [.str x7, v6])) (.ref t8) (fD (x7, wo)) := .tup (SqT.of upd_same) (.cons (.str x7) (.cons ((w1.tk (box_tk B6 o7)).tk (tk_same s8)) .nil))
            obtain ⟨a', xs, ea, hT, ts⟩ := tv7.ofTup
            obtain rfl : a = a' := by injection ea
            have lxs : xs.length = i := by rw [ts.length, List.length_map, ll]
            have B9 := (B7.new (u := .tup [.str x7, v6]) (B7.ne nt8)).new (u := .tup [.ref t8]) ((B7.new (u := .tup [.str x7, v6]) (B7.ne nt8)).ne nt9)
            have fin : ∀ (H10 : Hp) (a10 : Addr), Same (upd (upd H7 t8 (.tup [.str x7, v6])) t9 (.tup [.ref t8])) H10 → Box H10 b (N + 7 + 2 * cR d) → SqT K H10 a10 (xs ++ [.ref t8]) →
                ∃ (a : Addr) (l : List (Str × Wo)) (y3 y4 y5 y6' : Option V), ([some (.ref b), some (.int (d : Nat)), some (.ref a10), some (.int (0 + (i : Nat))), some (.int kw), some v6, y6] : L2.St) = [some (.ref b), some (.int (d : Nat)), some (.ref a), y3, y4, y5, y6'] ∧ Off b H H10 ∧ Box H10 b (n + 1 + (i + 1) * (7 + 2 * cR d)) ∧ TV K H10 (.ref a) (.tuple (l.map fD)) ∧ l.length = i + 1 ∧ ∀ x ∈ l, Fd d (78 + 2 * mR d) x := fun H10 a10 s10 B10 h10 => by
              have tkk : TK H7 H10 := tk_same (s8.trans (s9.trans s10))
              refine ⟨a10, l ++ [(x7, wo)], _, _, _, _, rfl, o2.trans ((o26.trans o7).trans (off_same (s8.trans (s9.trans s10)))), B10.mono ?_, .tup h10 ?_, by rw [List.length_append, ll]; rfl, fun x hx => ?_⟩
              · rw [Nat.add_mul, Nat.one_mul]
                omega
              · rw [List.map_append]
                exact (ts.tk tkk).app (.cons (T8.tk (tk_same (s9.trans s10))) .nil)
              · rcases List.mem_append.mp hx with hx | hx
                · exact lg x hx
                · obtain rfl : x = (x7, wo) := by simpa using hx
                  exact ⟨nm7, w2, w3, w4, w5⟩
            refine ⟨a, t9, xs, _, rfl, rfl, SqT.tk (tk_same (s8.trans s9)) hT, SqT.of upd_same, big_le (by show xs.length + 1 ≤ _; omega), fun z => ?_, fun _ z => (by cases z), fun _ _ p np => ?_⟩
            · subst z
              exact fin _ t9 (Same.refl _) (B9.mono (by omega)) (SqT.of upd_same)
            · exact fin _ p (same_new np) ((B9.new (B9.ne np)).mono (by omega)) (SqT.of upd_same)
    · obtain ⟨a, l, y3, y4, y5, y6, rfl, o2, B2, tv2, ll, lg⟩ := hP
      have g := Rc.of_good lg
      have k3 : k ≤ 3 := by omega
      refine ⟨.ref a, rfl, q H2 a (Rc.of l) o2 (B2.mono ?_) ?_ ⟨g.ok, g.rd, g.h, ?_⟩⟩
      · have : k * (7 + 2 * cR d) ≤ 3 * (7 + 2 * cR d) := Nat.mul_le_mul_right _ k3
        omega
      · rw [Rc.of_ds]
        exact tv2
      · have h1 := g.m
        have : (15 + (78 + 2 * mR d)) * l.length ≤ (15 + (78 + 2 * mR d)) * 3 := Nat.mul_le_mul_left _ (by omega)
        omega
/-- all depths -/
theorem ok_drecs {f : Addr} {fd : FuncData} (F : Fun K "_law_record" "_law_record" sRecord f fd) (T : Bl K mg) (d_take : DnG P w K mg base "_law_take" 1 ["_law_box_here", "_law_many"] spTake) (d_name : DnG P w K mg base "_law_name" 3 ["_law_box_here"] spDName)
    (d_literal : DnG P w K mg base "_law_literal" 3 ["_law_box_here"] spDLit) (g : mg "_law_record" = some (.ref f)) (bd : Binds K fd ["_law_box_here", "_law_deep"] []) : ∀ d, FnG P w K mg base CX0 (3 + d) f fd ["_law_box_here", "_law_deep"] (spDRec K d)
  | 0 => ⟨fun _ _ _ _ h => h.elim, fun _ _ _ _ _ _ _ _ _ _ _ _ _ _ h => h.elim⟩
  | d + 1 => by
    have := ok_drec (d := d) F T d_take d_name d_literal ⟨f, fd, ok_drecs F T d_take d_name d_literal g bd d, g, F.kp, bd⟩
    rwa [show 4 + d = 3 + (d + 1) by omega] at this
end
end M91

set_option Elab.async false
set_option linter.all false
set_option maxRecDepth 100000
set_option maxHeartbeats 4000000
/-! what the law draws: edits -/
namespace M91
open PySem PySem.Spec PyProof.Rows L2 GL TL
theorem scD5 : FnScope ["_law_box_here", "_law_found", "_law_turn", "_law_place", "_law_other", "_law_serial", "_law_index", "_law_some"] ["_law_box_here"] (defScope sEdit) := ⟨rfl, rfl, rfl, by decide +kernel, rfl, by decide +kernel, by decide +kernel⟩
theorem Lab.rd_ok {ots : List Str} (ho : ots = [] ∨ ots = [("*" : Str)]) {l : Lab} (h : l.rd ots) : l.ok := by
  cases l with
  | w x =>
    have := Lab.rlen ho h
    show x.length ≤ 60
    have h2 : x.length ≤ 31 := this
    omega
  | n k => exact h
theorem Place.mk_good {x : Str} {p : Path} (nx : isName x = true) (pne : p ≠ []) (pl : p.length ≤ 6) (prd : ∀ l ∈ p, l.rd []) : Place.ok (x, p) ∧ Place.rd (x, p) := by
  have h := (name_low nx).2.2
  exact ⟨⟨by show x.length ≤ 60; omega, by show p.length ≤ 60; omega, fun l hl => Lab.rd_ok (.inl rfl) (prd l hl)⟩, nx, pne, by show p.length ≤ 60; omega, prd⟩
/-- its record is no longer and no deeper than drawn -/
def Stp.mm : Stp → Prop
  | .put _ _ _ r => r.m ≤ 72261 ∧ r.h ≤ 3
  | _ => True
/-- a step that can be written and read -/
def StpG (x : Stp) : Prop := x.ok ∧ x.mm ∧ x.rd
theorem off_none {b p : Addr} {H H' : Hp} (o : Off b H H') (n : p ≠ b) (h : H' p = none) : H p = none := by
  cases e : H p with
  | none => rfl
  | some x =>
    rw [o _ _ n e] at h
    cases h
theorem cR4 : cR 4 = 5698 := by decide
theorem mR4 : mR 4 = 72261 := by decide
section
variable {P : Program} {w : World} {K : PySem.W.Frag} {mg : Str → Option Value} {base : Heap}
def spDEdit (K : PySem.W.Frag) : Sp := fun vs H Q _ => ∃ (b : Addr) (n : Nat), vs = [.ref b] ∧ Box H b n ∧ n < 800000 ∧ ∀ (H' : Hp) (a : Addr) (e : List Stp), Off b H H' → Box H' b (n + 23100) → TV K H' (.ref a) (.tuple (e.map Stp.d)) → e.length ≤ 4 → (∀ x ∈ e, StpG x) → Q (.ref a) H'
theorem ok_dedit {f : Addr} {fd : FuncData} (F : Fun K "_law_edit" "_law_edit" sEdit f fd) (T : Bl K mg) (d_of : DnG P w K mg base "_law_of" 2 ["_law_box_here", "_law_some"] spOf) (d_take : DnG P w K mg base "_law_take" 1 ["_law_box_here", "_law_many"] spTake)
    (d_name : DnG P w K mg base "_law_name" 3 ["_law_box_here"] spDName) (d_literal : DnG P w K mg base "_law_literal" 3 ["_law_box_here"] spDLit) (d_label_path : DnG P w K mg base "_law_label_path" 4 ["_law_box_here", "_law_most"] (spDLab K))
    (d_record : DnG P w K mg base "_law_record" 7 ["_law_box_here", "_law_deep"] (spDRec K 4)) : FnG P w K mg base CX0 8 f fd ["_law_box_here"] (spDEdit K) := by
  refine okG0 F scD5 (fun vs H Q E h => ?_) (fun cdv A outer s H vs Q E hr hG h => ?_)
  · obtain ⟨b, n, rfl, _⟩ := h
    rfl
  · obtain ⟨b, n, rfl, hB, hn, q⟩ := h
    refine ⟨_, (pss_cons (ps_set (i := 1) scD5.nd rfl (Or.inl rfl) (pe_tup pa_nil))
      (pss_cons (ps_for PassesOwn.never rfl (pi_range1 (by rfl) T.range (pa_cons (pe_callG d_take.ok (hr.mono (by omega)) hG (by rfl) d_take.g d_take.kp d_take.b .nil pass0 (pa_cons (pv 0) (pa_cons pe_int pa_nil))) pa_nil)) (pg_name (i := 2) scD5.nd rfl (Or.inl rfl))
        (pss_cons (ps_par (i := 3) (j := 4) (by rfl) scD5.nd rfl rfl (by decide) rfl rfl (pa_cons (pe_tup (pa_cons (pe_callG d_name.ok (hr.mono (by omega)) hG (by rfl) d_name.g d_name.kp d_name.b .nil pass0 (pa_cons (pv 0) pa_nil)) (pa_cons (pe_callG d_label_path.ok (hr.mono (by omega)) hG (by rfl) d_label_path.g d_label_path.kp d_label_path.b .nil pass0 (pa_cons (pv 0) (pa_cons pe_int pa_nil))) pa_nil))) (pa_cons (pe_tup (pa_cons (pe_callG d_name.ok (hr.mono (by omega)) hG (by rfl) d_name.g d_name.kp d_name.b .nil pass0 (pa_cons (pv 0) pa_nil)) (pa_cons (pe_callG d_label_path.ok (hr.mono (by omega)) hG (by rfl) d_label_path.g d_label_path.kp d_label_path.b .nil pass0 (pa_cons (pv 0) (pa_cons pe_int pa_nil))) pa_nil))) pa_nil)) (by rfl))
        (pss_cons (ps_par (i := 5) (j := 6) (by rfl) scD5.nd rfl rfl (by decide) rfl rfl (pa_cons (pe_callG d_take.ok (hr.mono (by omega)) hG (by rfl) d_take.g d_take.kp d_take.b .nil pass0 (pa_cons (pv 0) (pa_cons pe_int pa_nil))) (pa_cons (pe_callG d_of.ok (hr.mono (by omega)) hG (by rfl) d_of.g d_of.kp d_of.b .nil pass0 (pa_cons (pv 0) (pa_cons (pe_lst (pa_cons pe_int (pa_cons pe_int (pa_cons pe_int (pa_cons (pe_op op_pow pe_int pe_int) pa_nil))))) pa_nil))) pa_nil)) (by rfl))
        (pss_cons (ps_set (i := 7) scD5.nd rfl (Or.inl rfl) (pe_lst (pa_cons (pe_tup (pa_cons pe_str (pa_cons (pv 3) (pa_cons (pe_callG d_literal.ok (hr.mono (by omega)) hG (by rfl) d_literal.g d_literal.kp d_literal.b .nil pass0 (pa_cons (pv 0) pa_nil)) pa_nil)))) (pa_cons (pe_tup (pa_cons pe_str (pa_cons (pv 3) (pa_cons (pv 5) pa_nil)))) pa_nil))))
        (pss_cons (ps_expr (pe_bm PySem.F.plainAttrs_list PySem.F.slot_list_append PySem.F.type_list_append mt_append (pv 7) (pa_cons (pe_tup (pa_cons pe_str (pa_cons (pv 3) (pa_cons (pv 6) (pa_cons (pv 5) (pa_cons (pe_callG d_record.ok (hr.mono (by omega)) hG (by rfl) d_record.g d_record.kp d_record.b .nil pass0 (pa_cons (pv 0) (pa_cons pe_int pa_nil))) pa_nil)))))) pa_nil)))
        (pss_one (ps_set (i := 1) scD5.nd rfl (Or.inl rfl) (pe_op (r := rCatA K) op_catA (pv 1) (pe_tup (pa_cons (pe_callG d_of.ok (hr.mono (by omega)) hG (by rfl) d_of.g d_of.kp d_of.b .nil pass0 (pa_cons (pv 0) (pa_cons (pe_op op_cat (pv 7) (pe_lst (pa_cons (pe_tup (pa_cons pe_str (pa_cons (pv 3) (pa_cons (pv 5) (pa_cons (pv 4) (pa_cons (pv 6) pa_nil)))))) pa_nil))) pa_nil))) pa_nil))))))))))
      (pss_one (ps_ret (pv 1))))), ?_⟩
    refine ⟨by show 0 ≤ sizeLine; decide, fun a0 na0 => ?_⟩
    have B0 := hB.new (u := .tup []) (hB.ne na0)
    refine ⟨.ref b, rfl, b, 5, n, rfl, B0, by omega, by decide, by decide, fun r u r0 r1 B1 => ?_⟩
    obtain ⟨k, rfl⟩ : ∃ k : Nat, r = k := ⟨r.toNat, by omega⟩
    have o1 : Off b H (upd (upd H a0 (.tup [])) b u) := (Off.new na0).trans Off.box
    have T1 : TV K (upd (upd H a0 (.tup [])) b u) (.ref a0) (.tuple ([] : List PyData)) := (TV.tup (K := K) (H := upd H a0 (.tup [])) (a := a0) (SqT.of upd_same) .nil).tk (box_tk B0 Off.box)
    generalize upd (upd H a0 (.tup [])) b u = H1 at B1 o1 T1
    refine ⟨k, rfl, by omega, by omega, for_range (lo := 0) (n := k) (fun i σ H2 => ∃ (a : Addr) (e : List Stp) (y2 y3 y4 y5 y6 y7 : Option V), σ = [some (.ref b), some (.ref a), y2, y3, y4, y5, y6, y7] ∧ Off b H H2 ∧ Box H2 b (n + 1 + i * 5774) ∧ TV K H2 (.ref a) (.tuple (e.map Stp.d)) ∧ e.length = i ∧ ∀ x ∈ e, StpG x)
      ⟨a0, [], none, none, none, none, none, none, rfl, o1, B1, T1, rfl, fun x hx => nomatch hx⟩ (fun i σ H2 hi hP => ?_) (fun σ H2 hP => ?_)⟩
    · obtain ⟨a, e, y2, y3, y4, y5, y6, y7, rfl, o2, B2, tv2, le, eg⟩ := hP
      have hc : n + 1 + i * 5774 < 890000 := by omega
      generalize hN : n + 1 + i * 5774 = N at B2 hc
      -- the place
      refine ⟨.ref b, rfl, b, N, rfl, B2, by omega, fun x3 H3 nm3 o3 B3 => ⟨.ref b, rfl, b, _, 5, rfl, by decide, by decide, B3, by omega, fun H4 a4 p4 o4 B4 tv4 pne4 pl4 prd4 => ⟨by show 2 ≤ sizeLine; decide, fun t5 nt5 => ?_⟩⟩⟩
      have g5 := Place.mk_good nm3 pne4 pl4 prd4
      have B5 := B4.new (u := .tup [.str x3, .ref a4]) (B4.ne nt5)
      have s5 := same_new (o := .tup [.str x3, .ref a4]) nt5
      have T5 : TV K (upd H4 t5 (.tup [.str x3, .ref a4])) (.ref t5) (placeD (x3, p4)) := .tup (SqT.of upd_same) (.cons (.str x3) (.cons (tv4.tk (tk_same s5)) .nil))
      have o5 : Off b H2 (upd H4 t5 (.tup [.str x3, .ref a4])) := o3.trans (o4.trans (off_same s5))
      generalize upd H4 t5 (.tup [.str x3, .ref a4]) = H5 at B5 T5 o5
      clear s5 nt5 tv4 B4 o4 B3 o3
      -- the other one
      refine ⟨.ref b, rfl, b, _, rfl, B5, by omega, fun x6 H6 nm6 o6 B6 => ⟨.ref b, rfl, b, _, 3, rfl, by decide, by decide, B6, by omega, fun H7 a7 p7 o7 B7 tv7 pne7 pl7 prd7 => ⟨by show 2 ≤ sizeLine; decide, fun t8 nt8 => ⟨.ref t5, .ref t8, rfl, ?_⟩⟩⟩⟩
      have g8 := Place.mk_good nm6 pne7 pl7 prd7
      have B8 := B7.new (u := .tup [.str x6, .ref a7]) (B7.ne nt8)
      have s8 := same_new (o := .tup [.str x6, .ref a7]) nt8
      have T8 : TV K (upd H7 t8 (.tup [.str x6, .ref a7])) (.ref t8) (placeD (x6, p7)) := .tup (SqT.of upd_same) (.cons (.str x6) (.cons (tv7.tk (tk_same s8)) .nil))
      have o8 : Off b H5 (upd H7 t8 (.tup [.str x6, .ref a7])) := o6.trans (o7.trans (off_same s8))
      generalize upd H7 t8 (.tup [.str x6, .ref a7]) = H8 at B8 T8 o8
      clear s8 nt8 tv7 B7 o7 B6 o6
      have T5 := T5.tk (box_tk B5 o8)
      -- serial and index
      refine ⟨.ref b, rfl, b, 20, _, rfl, B8, by omega, by decide, by decide, fun r9 u9 r90 r91 B9 => ?_⟩
      obtain ⟨k9, rfl⟩ : ∃ k : Nat, r9 = k := ⟨r9.toNat, by omega⟩
      have o9 : Off b H8 (upd H8 b u9) := Off.box
      generalize upd H8 b u9 = H9 at B9 o9
      refine ⟨.ref b, rfl, 10, 8, rfl, rfl, ⟨by decide, by decide, by decide⟩, by show 4 ≤ sizeLine; decide, fun l10 nl10 => ⟨b, l10, _, _, rfl, upd_same, B9.ne nl10, B9.new (B9.ne nl10), by omega, by show 0 < 4; decide, by show 4 < 1000000; decide, fun v10 u10 hv10 B10 => ?_⟩⟩
      obtain ⟨k10, rfl, hk10⟩ : ∃ k : Nat, v10 = .int k ∧ k < 2 ^ 60 := by
        have all : ∀ v ∈ ([.int 0, .int 1, .int 11, .int (10 ^ (8 : Int).toNat)] : List V), ∃ k : Nat, v = .int k ∧ k < 2 ^ 60 := by
          refine List.forall_mem_cons.mpr ⟨⟨0, rfl, by decide⟩, List.forall_mem_cons.mpr ⟨⟨1, rfl, by decide⟩, List.forall_mem_cons.mpr ⟨⟨11, rfl, by decide⟩, List.forall_mem_cons.mpr ⟨⟨10 ^ 8, rfl, by decide⟩, List.forall_mem_nil _⟩⟩⟩⟩
        exact all _ hv10
      have o10 : Off b H8 (upd (upd H9 l10 (.lst [.int 0, .int 1, .int 11, .int (10 ^ (8 : Int).toNat)])) b u10) := o9.trans ((Off.new nl10).trans Off.box)
      generalize upd (upd H9 l10 (.lst [.int 0, .int 1, .int 11, .int (10 ^ (8 : Int).toNat)])) b u10 = H10 at B10 o10
      refine ⟨.int k9, .int k10, rfl, ?_⟩
      have T5 := T5.tk (box_tk B8 o10)
      have T8 := T8.tk (box_tk B8 o10)
      have o210 : Off b H2 H10 := o5.trans (o8.trans o10)
      clear o9 B9 nl10 hv10 o10 B8 o8 B5 o5
      have hk9 : k9 < 2 ^ 60 := by omega
      -- set and take
      refine ⟨.ref t5, rfl, .ref b, rfl, b, _, rfl, B10, by omega, fun lt H11 lok lrd o11 B11 => ⟨by show 3 ≤ sizeLine; decide, fun t12 nt12 => ?_⟩⟩
      have B12 := B11.new (u := .tup [.str "set", .ref t5, lt.v]) (B11.ne nt12)
      have s12 := same_new (o := .tup [.str "set", .ref t5, lt.v]) nt12
      have T12 : TV K (upd H11 t12 (.tup [.str "set", .ref t5, lt.v])) (.ref t12) (Stp.set (x3, p4) lt).d := .tup (SqT.of upd_same) (.cons (.str "set") (.cons ((T5.tk (box_tk B10 o11)).tk (tk_same s12)) (.cons lt.tv .nil)))
      have o12 : Off b H10 (upd H11 t12 (.tup [.str "set", .ref t5, lt.v])) := o11.trans (off_same s12)
      generalize upd H11 t12 (.tup [.str "set", .ref t5, lt.v]) = H12 at B12 T12 o12
      have T5 := T5.tk (box_tk B10 o12)
      have T8 := T8.tk (box_tk B10 o12)
      have o212 := o210.trans o12
      clear s12 nt12 B11 o11 B10 o12 o210
      refine ⟨.ref t5, rfl, .int k9, rfl, by show 3 ≤ sizeLine; decide, fun t13 nt13 => ?_⟩
      have B13 := B12.new (u := .tup [.str "take", .ref t5, .int k9]) (B12.ne nt13)
      have s13 := same_new (o := .tup [.str "take", .ref t5, .int k9]) nt13
      have T13 : TV K (upd H12 t13 (.tup [.str "take", .ref t5, .int k9])) (.ref t13) (Stp.take (x3, p4) k9).d := .tup (SqT.of upd_same) (.cons (.str "take") (.cons (T5.tk (tk_same s13)) (.cons (.int k9) .nil)))
      have T12 := T12.tk (tk_same s13)
      have T5 := T5.tk (tk_same s13)
      have T8 := T8.tk (tk_same s13)
      have o213 := o212.trans (off_same s13)
      generalize upd H12 t13 (.tup [.str "take", .ref t5, .int k9]) = H13 at B13 T13 T12 T5 T8 o213
      clear s13 nt13 B12 o212
      refine ⟨by show 2 ≤ sizeLine; decide, fun l14 nl14 => ?_⟩
      have l14b := B13.ne nl14
      have B14 := B13.new (u := .lst [.ref t12, .ref t13]) l14b
      have s14 := same_new (o := .lst [.ref t12, .ref t13]) nl14
      have T12 := T12.tk (tk_same s14)
      have T13 := T13.tk (tk_same s14)
      have T5 := T5.tk (tk_same s14)
      have T8 := T8.tk (tk_same s14)
      have o214 := o213.trans (off_same s14)
      have n2 : H2 l14 = none := off_none o213 l14b nl14
      have h14 : (upd H13 l14 (.lst [.ref t12, .ref t13])) l14 = some (.lst [.ref t12, .ref t13]) := upd_same
      generalize upd H13 l14 (.lst [.ref t12, .ref t13]) = H14 at B14 T13 T12 T5 T8 o214 h14
      clear s14 nl14 B13 o213
      -- put
      refine ⟨.ref l14, rfl, .inl ⟨rfl, _, SqL.of h14⟩, .ref t5, rfl, .int k10, rfl, .int k9, rfl, .ref b, rfl, b, _, rfl, B14, by rw [cR4]; omega, fun H15 a15 rc o15 B15 tv15 g15 => ⟨by show 5 ≤ sizeLine; decide, fun t16 nt16 => ?_⟩⟩
      rw [cR4] at B15
      rw [mR4] at g15
      have B16 := B15.new (u := .tup [.str "put", .ref t5, .int k10, .int k9, .ref a15]) (B15.ne nt16)
      have s16 := same_new (o := .tup [.str "put", .ref t5, .int k10, .int k9, .ref a15]) nt16
      have tk1416 : TK H14 (upd H15 t16 (.tup [.str "put", .ref t5, .int k10, .int k9, .ref a15])) := (box_tk B14 o15).trans (tk_same s16)
      have T16 : TV K (upd H15 t16 (.tup [.str "put", .ref t5, .int k10, .int k9, .ref a15])) (.ref t16) (Stp.put (x3, p4) k10 k9 rc).d := .tup (SqT.of upd_same) (.cons (.str "put") (.cons (T5.tk tk1416) (.cons (.int k10) (.cons (.int k9) (.cons (tv15.tk (tk_same s16)) .nil)))))
      have T12 := T12.tk tk1416
      have T13 := T13.tk tk1416
      have T5 := T5.tk tk1416
      have T8 := T8.tk tk1416
      have o216 := o214.trans (o15.trans (off_same s16))
      have h16 := s16 _ _ (o15 _ _ l14b h14)
      generalize upd H15 t16 (.tup [.str "put", .ref t5, .int k10, .int k9, .ref a15]) = H16 at B16 T16 T13 T12 T5 T8 o216 h16
      clear s16 nt16 tk1416 tv15 B15 o15 B14 o214 h14
      refine ⟨l14, _, _, rfl, rfl, h16, by show 2 < sizeLine; decide, ?_⟩
      have B17 := B16.new (u := .lst ([.ref t12, .ref t13] ++ [.ref t16])) l14b
      have tk17 : TK H16 (upd H16 l14 (.lst ([.ref t12, .ref t13] ++ [.ref t16]))) := tk_lst (TK.refl _) h16
      have T12 := T12.tk tk17
      have T13 := T13.tk tk17
      have T16 := T16.tk tk17
      have T5 := T5.tk tk17
      have T8 := T8.tk tk17
      have h17 : (upd H16 l14 (.lst ([.ref t12, .ref t13] ++ [.ref t16]))) l14 = some (.lst [.ref t12, .ref t13, .ref t16]) := upd_same
      have o217 : Off b H2 (upd H16 l14 (.lst ([.ref t12, .ref t13] ++ [.ref t16]))) := o216.put n2
      generalize upd H16 l14 (.lst ([.ref t12, .ref t13] ++ [.ref t16])) = H17 at B17 T16 T13 T12 T5 T8 o217 h17
      clear tk17 h16 o216 B16
      -- carry, and one of the four
      refine ⟨.ref a, rfl, .ref b, rfl, .ref l14, rfl, .ref t5, rfl, .int k9, rfl, .ref t8, rfl, .int k10, rfl, by show 5 ≤ sizeLine; decide, fun t18 nt18 => ?_⟩
      have B18 := B17.new (u := .tup [.str "carry", .ref t5, .int k9, .ref t8, .int k10]) (B17.ne nt18)
      have s18 := same_new (o := .tup [.str "carry", .ref t5, .int k9, .ref t8, .int k10]) nt18
      have T18 : TV K (upd H17 t18 (.tup [.str "carry", .ref t5, .int k9, .ref t8, .int k10])) (.ref t18) (Stp.carry (x3, p4) k9 (x6, p7) k10).d := .tup (SqT.of upd_same) (.cons (.str "carry") (.cons (T5.tk (tk_same s18)) (.cons (.int k9) (.cons (T8.tk (tk_same s18)) (.cons (.int k10) .nil)))))
      have T12 := T12.tk (tk_same s18)
      have T13 := T13.tk (tk_same s18)
      have T16 := T16.tk (tk_same s18)
      have h18 := s18 _ _ h17
      have o218 := o217.trans (off_same s18)
      generalize upd H17 t18 (.tup [.str "carry", .ref t5, .int k9, .ref t8, .int k10]) = H18 at B18 T18 T16 T13 T12 o218 h18
      clear s18 nt18 h17 o217 B17 T5 T8
      refine ⟨by show 1 ≤ sizeLine; decide, fun l19 nl19 => ?_⟩
      have B19 := B18.new (u := .lst [.ref t18]) (B18.ne nl19)
      have s19 := same_new (o := .lst [.ref t18]) nl19
      refine ⟨l14, l19, _, _, rfl, rfl, s19 _ _ h18, upd_same, by show 3 + 1 ≤ sizeLine; decide, fun l20 nl20 => ?_⟩
      have B20 := B19.new (u := .lst ([.ref t12, .ref t13, .ref t16] ++ [.ref t18])) (B19.ne nl20)
      have s20 := same_new (o := .lst ([.ref t12, .ref t13, .ref t16] ++ [.ref t18])) nl20
      refine ⟨b, l20, _, _, rfl, upd_same, B19.ne nl20, B20, by omega, by show 0 < 4; decide, by show 4 < 1000000; decide, fun v21 u21 hv21 B21 => ?_⟩
      have tk21 : TK H18 (upd (upd (upd H18 l19 (.lst [.ref t18])) l20 (.lst ([.ref t12, .ref t13, .ref t16] ++ [.ref t18]))) b u21) := (tk_same (s19.trans s20)).trans (box_tk B20 Off.box)
      have o221 : Off b H2 (upd (upd (upd H18 l19 (.lst [.ref t18])) l20 (.lst ([.ref t12, .ref t13, .ref t16] ++ [.ref t18]))) b u21) := o218.trans ((off_same (s19.trans s20)).trans Off.box)
      generalize upd (upd (upd H18 l19 (.lst [.ref t18])) l20 (.lst ([.ref t12, .ref t13, .ref t16] ++ [.ref t18]))) b u21 = H21 at B21 tk21 o221
      obtain ⟨x, rv, hrv, Tx, gx⟩ : ∃ (x : Stp) (rv : Addr), v21 = .ref rv ∧ TV K H21 (.ref rv) x.d ∧ StpG x := by
        have all : ∀ v ∈ ([.ref t12, .ref t13, .ref t16, .ref t18] : List V), ∃ (x : Stp) (rv : Addr), v = .ref rv ∧ TV K H21 (.ref rv) x.d ∧ StpG x := by
          refine List.forall_mem_cons.mpr ⟨⟨_, t12, rfl, T12.tk tk21, ⟨g5.1, lok⟩, trivial, g5.2, lrd⟩, List.forall_mem_cons.mpr ⟨⟨_, t13, rfl, T13.tk tk21, ⟨g5.1, hk9⟩, trivial, g5.2, hk9⟩, List.forall_mem_cons.mpr ⟨⟨_, t16, rfl, T16.tk tk21, ⟨g5.1, hk10, hk9, g15.ok, ?_, ?_⟩, ⟨g15.m, g15.h⟩, g5.2, hk10, hk9, g15.rd, ?_⟩, List.forall_mem_cons.mpr ⟨⟨_, t18, rfl, T18.tk tk21, ⟨g5.1, hk9, g8.1, hk10⟩, trivial, g5.2, hk9, g8.2, hk10⟩, List.forall_mem_nil _⟩⟩⟩⟩
          · have gh : rc.h ≤ 3 := g15.h
            omega
          · have := g15.m
            omega
          · have gh : rc.h ≤ 3 := g15.h
            omega
        exact all _ hv21
      subst hrv
      have tv21 := tv2.tk (box_tk B2 o221)
      refine ⟨by show 1 ≤ sizeLine; decide, fun t22 nt22 => ?_⟩
      have s22 := same_new (o := .tup [.ref rv]) nt22
      have B22 := B21.new (u := .tup [.ref rv]) (B21.ne nt22)
      obtain ⟨a', xs, ea, hT, ts⟩ := tv21.ofTup
      obtain rfl : a = a' := by injection ea
      have lxs : xs.length = i := by rw [ts.length, List.length_map, le]
      have fin : ∀ (H23 : Hp) (a23 : Addr), Same (upd H21 t22 (.tup [.ref rv])) H23 → Box H23 b (N + 5774) → SqT K H23 a23 (xs ++ [.ref rv]) → Off b H H23 ∧ Box H23 b (n + 1 + (i + 1) * 5774) ∧ TV K H23 (.ref a23) (.tuple ((e ++ [x]).map Stp.d)) ∧ (e ++ [x]).length = i + 1 ∧ ∀ y ∈ e ++ [x], StpG y := fun H23 a23 s23 B23 h23 => by
        have tkk : TK H21 H23 := tk_same (s22.trans s23)
        refine ⟨o2.trans (o221.trans (off_same (s22.trans s23))), B23.mono (by omega), .tup h23 ?_, by rw [List.length_append, le]; rfl, fun y hy => ?_⟩
        · rw [List.map_append]
          exact (ts.tk tkk).app (.cons (Tx.tk tkk) .nil)
        · rcases List.mem_append.mp hy with hy | hy
          · exact eg y hy
          · obtain rfl : y = x := by simpa using hy
            exact gx
      refine ⟨a, t22, xs, _, rfl, rfl, SqT.tk (tk_same s22) hT, SqT.of upd_same, big_le (by show xs.length + 1 ≤ _; omega), fun z => ?_, fun _ z => (by cases z), fun _ _ p np => ?_⟩
      · subst z
        exact ⟨t22, e ++ [x], _, _, _, _, _, _, rfl, fin _ t22 (Same.refl _) (B22.mono (by omega)) (SqT.of upd_same)⟩
      · exact ⟨p, e ++ [x], _, _, _, _, _, _, rfl, fin _ p (same_new np) ((B22.new (B22.ne np)).mono (by omega)) (SqT.of upd_same)⟩
    · obtain ⟨a, e, y2, y3, y4, y5, y6, y7, rfl, o2, B2, tv2, le, eg⟩ := hP
      exact ⟨.ref a, rfl, q H2 a e o2 (B2.mono (by omega)) tv2 (by omega) eg⟩
end
end M91

set_option Elab.async false
set_option linter.all false
set_option maxRecDepth 100000
set_option maxHeartbeats 4000000
/-! deeds in their order, and their keys in theirs -/
namespace M91
open PySem PySem.Spec PyProof.Rows L2 GL TL PySem.W
mutual
theorem eqv_self : ∀ {x : PyData}, tdat x = true → PyData.eqv x x = true
  | .int a, _ => by simp [PyData.eqv]
  | .str a, _ => by simp [PyData.eqv]
  | .tuple xs, h => by
    rw [tdat] at h
    rw [PyData.eqv]
    exact eqvs_self h
  | .none, h => by simp [tdat] at h
  | .bool _, h => by simp [tdat] at h
  | .list _, h => by simp [tdat] at h
  | .dict _, h => by simp [tdat] at h
theorem eqvs_self : ∀ {xs : List PyData}, tdats xs = true → PyData.eqvAll xs xs = true
  | [], _ => by simp [PyData.eqvAll]
  | x :: xs, h => by
    rw [eqv_all_cons, eqv_self (tdats_cons h).1, eqvs_self (tdats_cons h).2]
    rfl
end
theorem akins_self : ∀ {xs : List PyData}, tdats xs = true → akins xs xs = true
  | [], _ => by rw [akins]
  | x :: xs, h => by
    rw [akins, if_pos (eqv_self (tdats_cons h).1)]
    exact akins_self (tdats_cons h).2
theorem akin_self {xs : List PyData} (h : tdat (.tuple xs) = true) : akin (.tuple xs) (.tuple xs) = true := by
  rw [tdat] at h
  rw [akin]
  exact akins_self h
theorem eqv_no {x y : PyData} (hx : tdat x = true) (hy : tdat y = true) (h : x ≠ y) : PyData.eqv x y = false := by
  cases e : PyData.eqv x y with
  | false => rfl
  | true => exact absurd (tdat_eqv hx hy e) h
mutual
/-- the rows of signs tell akin data apart -/
theorem toks_inj : ∀ {x y : PyData}, tdat x = true → tdat y = true → akin x y = true → ∀ {l m : List (Int ⊕ List Nat)}, keyToks x ++ l = keyToks y ++ m → x = y ∧ l = m
  | .int a, y, _, _, h, l, m, e => by
    cases y with
    | int b =>
      simp only [keyToks, List.cons_append, List.nil_append] at e
      obtain ⟨e1, e2⟩ := List.cons.inj e
      exact ⟨by rw [Sum.inl.inj e1], e2⟩
    | _ => simp [akin] at h
  | .str a, y, _, _, h, l, m, e => by
    cases y with
    | str b =>
      simp only [keyToks, List.cons_append, List.nil_append] at e
      obtain ⟨e1, e2⟩ := List.cons.inj e
      exact ⟨by rw [str_of_cps (Sum.inr.inj e1)], e2⟩
    | _ => simp [akin] at h
  | .tuple xs, y, hx, hy, h, l, m, e => by
    cases y with
    | tuple ys =>
      rw [tdat] at hx hy
      rw [akin] at h
      simp only [keyToks] at e
      obtain ⟨e1, e2⟩ := toksAll_inj hx hy h e
      exact ⟨by rw [e1], e2⟩
    | _ => simp [akin] at h
  | .none, _, h, _, _, _, _, _ => by simp [tdat] at h
  | .bool _, _, h, _, _, _, _, _ => by simp [tdat] at h
  | .list _, _, h, _, _, _, _, _ => by simp [tdat] at h
  | .dict _, _, h, _, _, _, _, _ => by simp [tdat] at h
theorem toksAll_inj : ∀ {xs ys : List PyData}, tdats xs = true → tdats ys = true → akins xs ys = true → ∀ {l m : List (Int ⊕ List Nat)}, keyToksAll xs ++ l = keyToksAll ys ++ m → xs = ys ∧ l = m
  | [], [], _, _, _, l, m, e => ⟨rfl, List.append_cancel_left e⟩
  | [], y :: ys, _, _, _, l, m, e => by
    rw [toks_nil, toks_all_cons] at e
    simp at e
  | x :: xs, [], _, _, _, l, m, e => by
    rw [toks_nil, toks_all_cons] at e
    simp at e
  | x :: xs, y :: ys, hx, hy, h, l, m, e => by
    rw [toks_all_cons, toks_all_cons, List.cons_append, List.cons_append, List.append_assoc, List.append_assoc] at e
    have e := (List.cons.inj e).2
    cases q : PyData.eqv x y with
    | true =>
      obtain rfl := tdat_eqv (tdats_cons hx).1 (tdats_cons hy).1 q
      obtain ⟨e1, e2⟩ := toksAll_inj (tdats_cons hx).2 (tdats_cons hy).2 (akins_yes h q) (List.append_cancel_left e)
      exact ⟨by rw [e1], e2⟩
    | false =>
      obtain ⟨rfl, _⟩ := toks_inj (tdats_cons hx).1 (tdats_cons hy).1 (akins_no h q) e
      rw [eqv_self (tdats_cons hx).1] at q
      cases q
end
/-- of two that differ one is less -/
theorem lx_tri {x y : PyData} (hx : tdat x = true) (hy : tdat y = true) (h : akin x y = true) (ne : x ≠ y) (no : lxT (keyToks y) (keyToks x) = false) : lxT (keyToks x) (keyToks y) = true := by
  cases e : lxT (keyToks x) (keyToks y) with
  | true => rfl
  | false =>
    have e2 := lex_total (O := itemOrd) _ _ e no
    exact absurd (toks_inj (l := []) (m := []) hx hy h (by rw [List.append_nil, List.append_nil]; exact e2)).1 ne
theorem hd_diff {w w' : Str} (h : w ≠ w') {r r' : List PyData} (hr : tdats r = true) : akin (.tuple (.str w :: r)) (.tuple (.str w' :: r')) = true ∧ lxT (keyToks (.tuple (.str w :: r))) (keyToks (.tuple (.str w' :: r'))) = dataLt (.str w) (.str w') := by
  have e : PyData.eqv (.str w) (.str w') = false := eqv_no rfl rfl fun z => h (by injection z)
  have k : akin (.str w) (.str w') = true := by rw [akin]
  refine ⟨?_, ?_⟩
  · rw [akin, akins, if_neg (by rw [e]; exact Bool.false_ne_true)]
    exact k
  · simp only [keyToks]
    exact lx_no rfl rfl k e
theorem hd_same {w : Str} {r r' : List PyData} : akin (.tuple (.str w :: r)) (.tuple (.str w :: r')) = akins r r' ∧ lxT (keyToks (.tuple (.str w :: r))) (keyToks (.tuple (.str w :: r'))) = lxT (keyToksAll r) (keyToksAll r') := by
  have e : PyData.eqv (.str w) (.str w) = true := eqv_self rfl
  refine ⟨?_, ?_⟩
  · rw [akin, akins, if_pos e]
  · simp only [keyToks]
    exact lx_yes rfl rfl e
/-- at each place of both paths a word, or at each a number -/
def ssort : Path → Path → Prop
  | .w _ :: r, .w _ :: t => ssort r t
  | .n _ :: r, .n _ :: t => ssort r t
  | [], _ => True
  | _ :: _, [] => True
  | _, _ => False
theorem labs_tdat : ∀ p : Path, tdats (p.map Lab.d) = true
  | [] => rfl
  | .w x :: r => by
    rw [List.map_cons, tdats, labs_tdat r]
    rfl
  | .n k :: r => by
    rw [List.map_cons, tdats, labs_tdat r]
    rfl
theorem Lab.d_inj {l m : Lab} (h : l.d = m.d) : l = m := by
  cases l with
  | w x =>
    cases m with
    | w y =>
      have h : PyData.str x = PyData.str y := h
      injection h with h
      rw [h]
    | n k => cases h
  | n k =>
    cases m with
    | w y => cases h
    | n j =>
      have h : PyData.int (k : Int) = PyData.int (j : Int) := h
      injection h with h
      rw [show k = j by omega]
theorem lab_one_w (x y : Str) (h : x ≠ y) : akin (Lab.w x).d (Lab.w y).d = true ∧ dataLt (Lab.w x).k (Lab.w y).k = dataLt (Lab.w x).d (Lab.w y).d := by
  have e : PyData.eqv (.str x) (.str y) = false := eqv_no rfl rfl fun z => h (by injection z)
  refine ⟨by show akin (.str x) (.str y) = true; rw [akin], ?_⟩
  show dataLt (.tuple [.int 1, .int 0, .str x]) (.tuple [.int 1, .int 0, .str y]) = dataLt (.str x) (.str y)
  rw [dataLt_tuple]
  exact (lx_yes rfl rfl (eqv_self rfl)).trans ((lx_yes rfl rfl (eqv_self rfl)).trans (lx_no rfl rfl (by rw [akin]) e))
theorem lab_one_n (x y : Nat) (h : x ≠ y) : akin (Lab.n x).d (Lab.n y).d = true ∧ dataLt (Lab.n x).k (Lab.n y).k = dataLt (Lab.n x).d (Lab.n y).d := by
  have e : PyData.eqv (.int (x : Int)) (.int (y : Int)) = false := eqv_no rfl rfl fun z => h (by injection z with z; omega)
  refine ⟨by show akin (.int (x : Int)) (.int (y : Int)) = true; rw [akin], ?_⟩
  show dataLt (.tuple [.int 0, .int (x : Int), .str ""]) (.tuple [.int 0, .int (y : Int), .str ""]) = dataLt (.int (x : Int)) (.int (y : Int))
  rw [dataLt_tuple]
  exact (lx_yes rfl rfl (eqv_self rfl)).trans (lx_no rfl rfl (by rw [akin]) e)
theorem Lab.k_inj {l m : Lab} (h : l.k = m.k) : l = m := by
  cases l with
  | w x =>
    cases m with
    | w y =>
      have h : PyData.tuple [.int 1, .int 0, .str x] = PyData.tuple [.int 1, .int 0, .str y] := h
      injection h with h
      have h := (List.cons.inj (List.cons.inj (List.cons.inj h).2).2).1
      injection h with h
      rw [h]
    | n k =>
      have h : PyData.tuple [.int 1, .int 0, .str x] = PyData.tuple [.int 0, .int (k : Int), .str ""] := h
      injection h with h
      have h := (List.cons.inj h).1
      injection h with h
      exact absurd h (by decide)
  | n k =>
    cases m with
    | w y =>
      have h : PyData.tuple [.int 0, .int (k : Int), .str ""] = PyData.tuple [.int 1, .int 0, .str y] := h
      injection h with h
      have h := (List.cons.inj h).1
      injection h with h
      exact absurd h (by decide)
    | n j =>
      have h : PyData.tuple [.int 0, .int (k : Int), .str ""] = PyData.tuple [.int 0, .int (j : Int), .str ""] := h
      injection h with h
      have h := (List.cons.inj (List.cons.inj h).2).1
      injection h with h
      rw [show k = j by omega]
theorem lab_step {l m : Lab} {r t : Path} (h1 : l ≠ m → akin l.d m.d = true ∧ dataLt l.k m.k = dataLt l.d m.d) (ih : akins (r.map Lab.d) (t.map Lab.d) = true ∧ lxT (keyToksAll (r.map Lab.d)) (keyToksAll (t.map Lab.d)) = lxT (keyToksAll (r.map Lab.k)) (keyToksAll (t.map Lab.k))) :
    akins ((l :: r).map Lab.d) ((m :: t).map Lab.d) = true ∧ lxT (keyToksAll ((l :: r).map Lab.d)) (keyToksAll ((m :: t).map Lab.d)) = lxT (keyToksAll ((l :: r).map Lab.k)) (keyToksAll ((m :: t).map Lab.k)) := by
  have td : ∀ l : Lab, tdat l.d = true := fun l => by cases l <;> rfl
  rw [List.map_cons, List.map_cons, List.map_cons, List.map_cons]
  by_cases e : l = m
  · subst e
    have ed := eqv_self (td l)
    have ek := eqv_self l.k_td
    exact ⟨by rw [akins, if_pos ed]; exact ih.1, by rw [lx_yes (td l) (td l) ed, lx_yes l.k_td l.k_td ek]; exact ih.2⟩
  · obtain ⟨a1, a2⟩ := h1 e
    have ed := eqv_no (td l) (td m) fun z => e (Lab.d_inj z)
    have ek := eqv_no l.k_td m.k_td fun z => e (Lab.k_inj z)
    have ak : akin l.k m.k = true := by
      have := akins_labs [l] [m]
      rw [List.map_cons, List.map_cons] at this
      exact akins_no this ek
    refine ⟨by rw [akins, if_neg (by rw [ed]; exact Bool.false_ne_true)]; exact a1, ?_⟩
    rw [lx_no (td l) (td m) a1 ed, lx_no l.k_td m.k_td ak ek, a2]
theorem lab_lx : ∀ {p q : Path}, ssort p q → akins (p.map Lab.d) (q.map Lab.d) = true ∧ lxT (keyToksAll (p.map Lab.d)) (keyToksAll (q.map Lab.d)) = lxT (keyToksAll (p.map Lab.k)) (keyToksAll (q.map Lab.k))
  | [], [], _ => ⟨by rw [List.map_nil, akins], by rw [List.map_nil, List.map_nil]⟩
  | [], m :: t, _ => by
    refine ⟨by rw [List.map_nil, akins], ?_⟩
    rw [List.map_nil, List.map_nil, List.map_cons, List.map_cons, toks_nil, toks_all_cons, toks_all_cons, lxT, lex_diff (O := itemOrd) (by simp), lex_diff (O := itemOrd) (by simp)]
  | l :: r, [], _ => by
    refine ⟨by rw [List.map_nil, List.map_cons, akins], ?_⟩
    rw [List.map_nil, List.map_nil, List.map_cons, List.map_cons, toks_nil, toks_all_cons, toks_all_cons, lxT, lex_diff (O := itemOrd) (by simp), lex_diff (O := itemOrd) (by simp)]
  | .w x :: r, .w y :: t, h => lab_step (fun e => lab_one_w x y fun z => e (by rw [z])) (lab_lx (p := r) (q := t) h)
  | .n x :: r, .n y :: t, h => lab_step (fun e => lab_one_n x y fun z => e (by rw [z])) (lab_lx (p := r) (q := t) h)
/-- the spots that are drawn -/
def SpW (s : Spot) : Prop := s.f = "main" ∧ ((s.o ≠ "goods" ∧ ∀ l ∈ s.p, ∃ y, l = Lab.w y) ∨ (s.o = "goods" ∧ ∃ k y, s.p = [.n k, .w y]))
theorem words_ssort : ∀ {p q : Path}, (∀ l ∈ p, ∃ y, l = Lab.w y) → (∀ l ∈ q, ∃ y, l = Lab.w y) → ssort p q
  | [], _, _, _ => by
    unfold ssort
    trivial
  | .w _ :: _, [], _, _ => trivial
  | .n _ :: _, [], _, _ => trivial
  | l :: r, m :: t, h, g => by
    obtain ⟨x, rfl⟩ := h l (List.mem_cons_self ..)
    obtain ⟨y, rfl⟩ := g m (List.mem_cons_self ..)
    show ssort r t
    exact words_ssort (fun z hz => h z (List.mem_cons_of_mem _ hz)) fun z hz => g z (List.mem_cons_of_mem _ hz)
theorem SpW.ssort {s t : Spot} (h : SpW s) (g : SpW t) (e : s.o = t.o) : ssort s.p t.p := by
  rcases h.2 with ⟨h1, h2⟩ | ⟨h1, k, y, h2⟩
  · rcases g.2 with ⟨g1, g2⟩ | ⟨g1, _⟩
    · exact words_ssort h2 g2
    · exact absurd (e.trans g1) h1
  · rcases g.2 with ⟨g1, _⟩ | ⟨g1, k', y', g2⟩
    · exact absurd (e.symm.trans h1) g1
    · rw [h2, g2]
      trivial
theorem Spot.d_td (s : Spot) : tdat s.d = true := by
  show (true && (true && (tdats (s.p.map Lab.d) && true))) = true
  rw [labs_tdat]
  rfl
theorem one_akins {x y : PyData} (h : akin x y = true) : akins [x] [y] = true := by
  rw [akins]
  split
  · rw [akins]
  · exact h
theorem one_lx {x y : PyData} (hx : tdat x = true) (hy : tdat y = true) (h : akin x y = true) : lxT (keyToksAll [x]) (keyToksAll [y]) = lxT (keyToks x) (keyToks y) := by
  cases e : PyData.eqv x y with
  | true =>
    rw [lx_yes hx hy e, tdat_eqv hx hy e, lxT, lex_irrefl, lex_irrefl]
  | false => exact lx_no hx hy h e
/-- two spots, and what their keys have of them -/
theorem spot_lx {s t : Spot} (h : SpW s) (g : SpW t) : akin s.d t.d = true ∧ lxT (keyToks s.d) (keyToks t.d) = lxT (keyToksAll [.str s.f, .str s.o, .tuple (s.p.map Lab.k)]) (keyToksAll [.str t.f, .str t.o, .tuple (t.p.map Lab.k)]) := by
  have ef : s.f = t.f := h.1.trans g.1.symm
  show akin (.tuple [.str s.f, .str s.o, .tuple (s.p.map Lab.d)]) (.tuple [.str t.f, .str t.o, .tuple (t.p.map Lab.d)]) = true ∧ lxT (keyToks (.tuple [.str s.f, .str s.o, .tuple (s.p.map Lab.d)])) (keyToks (.tuple [.str t.f, .str t.o, .tuple (t.p.map Lab.d)])) = _
  rw [ef, hd_same.1, hd_same.2, lx_yes rfl rfl (eqv_self rfl)]
  by_cases eo : s.o = t.o
  · obtain ⟨l1, l2⟩ := lab_lx (h.ssort g eo)
    have e : PyData.eqv (.str t.o) (.str t.o) = true := eqv_self rfl
    have td : ∀ p : Path, tdat (.tuple (p.map Lab.d)) = true := fun p => by rw [tdat]; exact labs_tdat p
    have tk : ∀ p : Path, tdat (.tuple (p.map Lab.k)) = true := fun p => by rw [tdat]; exact labs_td p
    have a1 : akin (.tuple (s.p.map Lab.d)) (.tuple (t.p.map Lab.d)) = true := by rw [akin]; exact l1
    have a2 : akin (.tuple (s.p.map Lab.k)) (.tuple (t.p.map Lab.k)) = true := by rw [akin]; exact akins_labs _ _
    rw [eo, lx_yes rfl rfl e, lx_yes rfl rfl e, akins, if_pos e]
    refine ⟨one_akins a1, ?_⟩
    rw [one_lx (td _) (td _) a1, one_lx (tk _) (tk _) a2]
    simp only [keyToks]
    exact l2
  · have e : PyData.eqv (.str s.o) (.str t.o) = false := eqv_no rfl rfl fun z => eo (by injection z)
    have k : akin (.str s.o) (.str t.o) = true := by rw [akin]
    rw [akins, if_neg (by rw [e]; exact Bool.false_ne_true), lx_no rfl rfl k e, lx_no rfl rfl k e]
    exact ⟨k, rfl⟩
def DdS : Dd → Prop
  | .set s _ => SpW s
  | .gone s => SpW s
  | .order _ n _ => n = "people"
/-- what the law's dict has as its key -/
def Dd.dk : Dd → PyData
  | .set s _ => s.d
  | .gone s => s.d
  | .order f n _ => .tuple [.str f, .str n]
theorem Lit.d_td (l : Lit) : tdat l.d = true := by cases l <;> rfl
theorem ints_td : ∀ ks : List Nat, tdats (ks.map intD) = true
  | [] => rfl
  | k :: ks => by
    rw [List.map_cons, tdats, ints_td ks]
    rfl
theorem Dd.d_td (x : Dd) : tdat x.d = true := by
  cases x with
  | set s l =>
    show (true && (tdat s.d && (tdat l.d && true))) = true
    rw [s.d_td, l.d_td]
    rfl
  | gone s =>
    show (true && (tdat s.d && true)) = true
    rw [s.d_td]
    rfl
  | order f n ks =>
    show (true && (true && (true && (tdats (ks.map intD) && true)))) = true
    rw [ints_td]
    rfl
/-- spots that differ, behind one word -/
theorem two_spots {w : Str} {s t : Spot} (h : SpW s) (g : SpW t) (ne : s.d ≠ t.d) {r r' : List PyData} : akin (.tuple (.str w :: s.d :: r)) (.tuple (.str w :: t.d :: r')) = true ∧ lxT (keyToks (.tuple (.str w :: s.d :: r))) (keyToks (.tuple (.str w :: t.d :: r'))) = lxT (keyToks (.tuple [.str w, .str s.f, .str s.o, .tuple (s.p.map Lab.k)])) (keyToks (.tuple [.str w, .str t.f, .str t.o, .tuple (t.p.map Lab.k)])) := by
  obtain ⟨a1, a2⟩ := spot_lx h g
  have e := eqv_no s.d_td t.d_td ne
  rw [hd_same.1, hd_same.2, hd_same.2, ← a2, lx_no s.d_td t.d_td a1 e, akins, if_neg (by rw [e]; exact Bool.false_ne_true)]
  exact ⟨a1, rfl⟩
theorem set_gone : ("set" : Str) ≠ "gone" := by decide +kernel
theorem set_order : ("set" : Str) ≠ "order" := by decide +kernel
theorem gone_order : ("gone" : Str) ≠ "order" := by decide +kernel
theorem Dd.d_hd (x : Dd) : ∃ r, x.d = .tuple (.str x.kp.1 :: r) ∧ tdats r = true := by
  have h := x.d_td
  cases x with
  | set s l => exact ⟨_, rfl, by have h : (true && tdats [s.d, l.d]) = true := h; exact h⟩
  | gone s => exact ⟨_, rfl, by have h : (true && tdats [s.d]) = true := h; exact h⟩
  | order f n ks => exact ⟨_, rfl, by have h : (true && tdats [.str f, .str n, .tuple (ks.map intD)]) = true := h; exact h⟩
theorem Dd.k_hd (x : Dd) : ∃ r, x.k = .tuple (.str x.kp.1 :: r) ∧ tdats r = true := by
  have h := x.k_td
  rw [x.k_eq] at h ⊢
  exact ⟨_, rfl, by have h : (true && tdats _) = true := h; exact h⟩
/-- THE LAW: deeds stand as their keys do -/
theorem dd_lx {x y : Dd} (hx : DdS x) (hy : DdS y) (ne : x.dk ≠ y.dk) : akin x.d y.d = true ∧ lxT (keyToks x.d) (keyToks y.d) = lxT (keyToks x.k) (keyToks y.k) := by
  by_cases e : x.kp.1 = y.kp.1
  · cases x with
    | set s l =>
      cases y with
      | set t m => exact two_spots hx hy ne
      | gone t => exact absurd e set_gone
      | order f n ks => exact absurd e set_order
    | gone s =>
      cases y with
      | set t m => exact absurd e.symm set_gone
      | gone t => exact two_spots hx hy ne
      | order f n ks => exact absurd e gone_order
    | order f n ks =>
      cases y with
      | set t m => exact absurd e.symm set_order
      | gone t => exact absurd e.symm gone_order
      | order f' n' ks' =>
        have e1 : n = "people" := hx
        have e2 : n' = "people" := hy
        have nf : f ≠ f' := fun z => ne (by rw [z, e1, e2]; rfl)
        have ev : PyData.eqv (.str f) (.str f') = false := eqv_no rfl rfl fun z => nf (by injection z)
        have k : akin (.str f) (.str f') = true := by rw [akin]
        show akin (.tuple [.str "order", .str f, .str n, .tuple (ks.map intD)]) (.tuple [.str "order", .str f', .str n', .tuple (ks'.map intD)]) = true ∧ lxT (keyToks (.tuple [.str "order", .str f, .str n, .tuple (ks.map intD)])) (keyToks (.tuple [.str "order", .str f', .str n', .tuple (ks'.map intD)])) = lxT (keyToks (.tuple [.str "order", .str f, .str n, .tuple []])) (keyToks (.tuple [.str "order", .str f', .str n', .tuple []]))
        rw [hd_same.1, hd_same.2, hd_same.2, lx_no rfl rfl k ev, lx_no rfl rfl k ev, akins, if_neg (by rw [ev]; exact Bool.false_ne_true)]
        exact ⟨k, rfl⟩
  · obtain ⟨r1, e1, t1⟩ := x.d_hd
    obtain ⟨r2, e2, t2⟩ := y.d_hd
    obtain ⟨r3, e3, t3⟩ := x.k_hd
    obtain ⟨r4, e4, t4⟩ := y.k_hd
    rw [e1, e2, e3, e4, (hd_diff e t1).2, (hd_diff e t3).2]
    exact ⟨(hd_diff e t1).1, rfl⟩
theorem dd_ne {x y : Dd} (hx : DdS x) (hy : DdS y) (ne : x.dk ≠ y.dk) : x.d ≠ y.d := fun e => ne (by
  cases x with
  | set s l =>
    cases y with
    | set t m =>
      injection e with e
      exact (List.cons.inj (List.cons.inj e).2).1
    | gone t =>
      injection e with e
      have := (List.cons.inj e).1
      injection this with this
      exact absurd this set_gone
    | order f n ks =>
      injection e with e
      have := (List.cons.inj e).1
      injection this with this
      exact absurd this set_order
  | gone s =>
    cases y with
    | set t m =>
      injection e with e
      have := (List.cons.inj e).1
      injection this with this
      exact absurd this.symm set_gone
    | gone t =>
      injection e with e
      exact (List.cons.inj (List.cons.inj e).2).1
    | order f n ks =>
      injection e with e
      have := (List.cons.inj e).1
      injection this with this
      exact absurd this gone_order
  | order f n ks =>
    cases y with
    | set t m =>
      injection e with e
      have := (List.cons.inj e).1
      injection this with this
      exact absurd this.symm set_order
    | gone t =>
      injection e with e
      have := (List.cons.inj e).1
      injection this with this
      exact absurd this.symm gone_order
    | order f' n' ks' =>
      injection e with e
      have h1 := (List.cons.inj (List.cons.inj e).2).1
      have h2 := (List.cons.inj (List.cons.inj (List.cons.inj e).2).2).1
      show PyData.tuple [.str f, .str n] = PyData.tuple [.str f', .str n']
      rw [h1, h2])
/-- what stands sorted has its keys sorted -/
theorem dd_sorted {x y : Dd} (hx : DdS x) (hy : DdS y) (ne : x.dk ≠ y.dk) (no : lxT (keyToks y.d) (keyToks x.d) = false) : lxT (keyToks x.k) (keyToks y.k) = true := by
  obtain ⟨a, e⟩ := dd_lx hx hy ne
  rw [← e]
  exact lx_tri x.d_td y.d_td a (dd_ne hx hy ne) no
end M91

set_option Elab.async false
set_option linter.all false
set_option maxRecDepth 100000
set_option maxHeartbeats 4000000
/-! what the law draws: deeds -/
namespace M91
open PySem PySem.Spec PyProof.Rows L2 GL TL
theorem scD6 : FnScope ["_law_box_here", "_law_found", "_law_turn", "_law_owner", "_law_names", "_law_other", "_law_spot", "_law_rows", "_law_order", "_law_deed"] ["_law_box_here"] (defScope sDeeds) := ⟨rfl, rfl, rfl, by decide +kernel, rfl, by decide +kernel, by decide +kernel⟩
mutual
theorem key_data : ∀ {d : PyData}, tdat d = true → (keyD' d).data = d
  | .int i, _ => by rw [keyD', NestedKey.data]
  | .str x, _ => by rw [keyD', NestedKey.data]
  | .tuple xs, h => by
    rw [tdat] at h
    rw [keyD', NestedKey.data, keys_data h]
  | .none, h => by simp [tdat] at h
  | .bool _, h => by simp [tdat] at h
  | .list _, h => by simp [tdat] at h
  | .dict _, h => by simp [tdat] at h
theorem keys_data : ∀ {ds : List PyData}, tdats ds = true → NestedKey.datas (keysD' ds) = ds
  | [], _ => by rw [keysD', NestedKey.datas]
  | d :: ds, h => by rw [keysD', NestedKey.datas, key_data (tdats_cons h).1, keys_data (tdats_cons h).2]
end
theorem Dd.dk_td (x : Dd) : tdat x.dk = true := by
  cases x with
  | set s l => exact s.d_td
  | gone s => exact s.d_td
  | order f n ks => rfl
theorem Dd.dk_dep (x : Dd) : (keyD' x.dk).depth ≤ 8 := by
  have key : ∀ s : Spot, (keyD' s.d).depth ≤ 8 := fun s => by
    have := key_labs s.p
    simp only [Spot.d, pathD, keyD', keysD', NestedKey.depth, NestedKey.depthAll]
    omega
  cases x with
  | set s l => exact key s
  | gone s => exact key s
  | order f n ks =>
    show (1 : Nat) ≤ 8
    decide
theorem tg_dk {x y : Dd} (h : keyD' x.tg = keyD' y.tg) : keyD' x.dk = keyD' y.dk := by
  have one : ∀ z : Dd, ∃ b : NestedKey, keyD' z.tg = .tup [b, keyD' z.dk] := fun z => by
    cases z with
    | set s l => exact ⟨_, rfl⟩
    | gone s => exact ⟨_, rfl⟩
    | order f n ks => exact ⟨_, rfl⟩
  obtain ⟨b, e1⟩ := one x
  obtain ⟨c, e2⟩ := one y
  rw [e1, e2] at h
  injection h with h
  exact (List.cons.inj (List.cons.inj h).2).1
theorem labs_depth : ∀ p : Path, PyData.depthAll (p.map Lab.d) ≤ 0
  | [] => Nat.le_refl _
  | l :: r => by
    have h := labs_depth r
    have e : l.d.depth = 0 := by cases l <;> rfl
    rw [List.map_cons, PyData.depthAll, e]
    omega
theorem ints_depth : ∀ ks : List Nat, PyData.depthAll (ks.map intD) ≤ 0
  | [] => Nat.le_refl _
  | k :: r => by
    have h := ints_depth r
    have e : (intD k).depth = 0 := rfl
    rw [List.map_cons, PyData.depthAll, e]
    omega
theorem Dd.d_dep (x : Dd) : x.d.depth ≤ 60 := by
  cases x with
  | set s l =>
    have h1 := labs_depth s.p
    have h2 : l.d.depth = 0 := by cases l <;> rfl
    simp only [Dd.d, Spot.d, pathD, PyData.depth, PyData.depthAll, h2]
    omega
  | gone s =>
    have h1 := labs_depth s.p
    simp only [Dd.d, Spot.d, pathD, PyData.depth, PyData.depthAll]
    omega
  | order f n ks =>
    have h1 := ints_depth ks
    simp only [Dd.d, PyData.depth, PyData.depthAll]
    omega
/-- a deed that is drawn -/
structure DdG (x : Dd) : Prop where
  ok : x.ok
  rd : x.rd
  s : DdS x
theorem stU_vals {us : List Ent} {k : NestedKey} {b c : Addr} (h1 : (us.map (·.1)).Nodup) (h2 : (us.map fun e => e.2.2).Nodup) (hc : ∀ e ∈ us, e.2.2 ≠ c) : ((stU us k b c).map fun e => e.2.2).Nodup := by
  unfold stU
  split
  · rw [List.map_map]
    refine List.pairwise_map.mpr (((List.pairwise_map.mp h1).and (List.pairwise_map.mp h2)).imp_of_mem fun {e e'} he he' q => ?_)
    obtain ⟨q1, q2⟩ := q
    show (if e.1 = k then (e.1, e.2.1, c) else e).2.2 ≠ (if e'.1 = k then (e'.1, e'.2.1, c) else e').2.2
    by_cases g : e.1 = k
    · rw [if_pos g, if_neg fun z => q1 (g.trans z.symm)]
      exact fun z => hc e' he' z.symm
    · rw [if_neg g]
      by_cases g' : e'.1 = k
      · rw [if_pos g']
        exact hc e he
      · rw [if_neg g']
        exact q2
  · rw [List.map_append, List.nodup_append]
    refine ⟨h2, by simp, fun x hx y hy => ?_⟩
    obtain ⟨e, he, rfl⟩ := List.mem_map.mp hx
    obtain rfl : y = c := by simpa using hy
    exact hc e he
theorem pick_dd {R : Ent → Dd → Prop} : ∀ {us : List Ent}, (∀ e ∈ us, ∃ x, R e x) → (us.map fun e => e.2.2).Nodup → ∃ g : Addr → Option Dd, ∀ e ∈ us, ∃ x, g e.2.2 = some x ∧ R e x
  | [], _, _ => ⟨fun _ => none, fun e h => nomatch h⟩
  | e0 :: us, h, nd => by
    obtain ⟨n1, n2⟩ := List.nodup_cons.mp nd
    obtain ⟨g, hg⟩ := pick_dd (us := us) (fun e he => h e (List.mem_cons_of_mem _ he)) n2
    obtain ⟨x0, hx0⟩ := h e0 (List.mem_cons_self ..)
    refine ⟨fun a => if a = e0.2.2 then some x0 else g a, fun e he => ?_⟩
    rcases List.mem_cons.mp he with rfl | he
    · exact ⟨x0, if_pos rfl, hx0⟩
    · obtain ⟨x, e1, e2⟩ := hg e he
      have : e.2.2 ≠ e0.2.2 := fun z => n1 (List.mem_map.mpr ⟨e, he, z⟩)
      exact ⟨x, (if_neg this).trans e1, e2⟩
theorem pe_dnewP {X : Cx} {P : Program} {w : World} {pos : Pos} (hP : X.prog = P) (hw : X.w = w) : PE X (.Dict [] [] pos) (tDNewN P w) := by
  subst hP
  subst hw
  exact pe_dnewN
section
variable {P : Program} {w : World} {K : PySem.W.Frag} {mg : Str → Option Value} {base : Heap}
theorem ND.off {H H' : Hp} {d b : Addr} {us : List Ent} {n : Nat} (N : ND P w K H d us) (B : Box H b n) (o : Off b H H') (db : d ≠ b) : ND P w K H' d us := ⟨o _ _ db N.ob, N.lo, N.nd, fun e he => ⟨(N.ky e he).1.tk (box_tk B o), (N.ky e he).2⟩⟩
theorem ND.same {H H' : Hp} {d : Addr} {us : List Ent} (N : ND P w K H d us) (o : Same H H') : ND P w K H' d us := ⟨o _ _ N.ob, N.lo, N.nd, fun e he => ⟨(N.ky e he).1.tk (tk_same o), (N.ky e he).2⟩⟩
/-- the entries so far -/
structure Ents (P : Program) (w : World) (K : PySem.W.Frag) (H : Hp) (d : Addr) (us : List Ent) (i : Nat) : Prop where
  nd : ND P w K H d us
  len : us.length ≤ i
  vals : (us.map fun e => e.2.2).Nodup
  there : ∀ e ∈ us, ∃ o, H e.2.2 = some o
  deed : ∀ e ∈ us, ∃ x : Dd, e.1 = keyD' x.dk ∧ TV K H (.ref e.2.2) x.d ∧ DdG x
theorem Ents.off {H H' : Hp} {d b : Addr} {us : List Ent} {n i : Nat} (N : Ents P w K H d us i) (B : Box H b n) (o : Off b H H') (db : d ≠ b) (nb : ∀ e ∈ us, e.2.2 ≠ b) : Ents P w K H' d us i := by
  refine ⟨N.nd.off B o db, N.len, N.vals, fun e he => ?_, fun e he => ?_⟩
  · obtain ⟨x, hx⟩ := N.there e he
    exact ⟨x, o _ _ (nb e he) hx⟩
  · obtain ⟨x, h1, h2, h3⟩ := N.deed e he
    exact ⟨x, h1, h2.tk (box_tk B o), h3⟩
def DInv (P : Program) (w : World) (K : PySem.W.Frag) (b d : Addr) (H : Hp) (n i : Nat) (σ : L2.St) (H2 : Hp) : Prop := ∃ (us : List Ent) (y2 y3 y4 y5 y6 y7 y8 y9 : Option V), σ = [some (.ref b), some (.ref d), y2, y3, y4, y5, y6, y7, y8, y9] ∧ Off b H H2 ∧ Box H2 b (n + 1 + i * 20) ∧ Ents P w K H2 d us i ∧ ∀ e ∈ us, e.2.2 ≠ b
def spDDeeds (K : PySem.W.Frag) : Sp := fun vs H Q _ => ∃ (b : Addr) (n : Nat), vs = [.ref b] ∧ Box H b n ∧ n < 850000 ∧ ∀ (H' : Hp) (a : Addr) (e : List Dd), Off b H H' → Box H' b (n + 101) → TV K H' (.ref a) (.tuple (e.map Dd.d)) → e.length ≤ 5 → (∀ x ∈ e, DdG x) →
  (e.Pairwise fun x y => lxT (PySem.W.keyToks x.k) (PySem.W.keyToks y.k) = true) → (e.map fun x => keyD' x.tg).Nodup → Q (.ref a) H'
theorem Spot.mk_ok {o : Str} {p : Path} (ho : o = "" ∨ isName o = true) (pne : p ≠ []) (pl : p.length ≤ 60) (prd : ∀ l ∈ p, l.rd [("*" : Str)]) : (Spot.mk "main" o p).ok ∧ (Spot.mk "main" o p).rd := by
  refine ⟨⟨by show ("main" : Str).length ≤ 60; decide, ?_, pl, fun l hl => Lab.rd_ok (.inr rfl) (prd l hl)⟩, by show isName "main" = true; decide +kernel, ho, pne, pl, prd⟩
  rcases ho with rfl | ho
  · show ("" : Str).length ≤ 60
    decide
  · have := (name_low ho).2.2
    show o.length ≤ 60
    omega
theorem Lab.star {l : Lab} (h : l.rd []) : l.rd [("*" : Str)] := by
  cases l with
  | w x =>
    rcases h with h | h
    · exact .inl h
    · cases h
  | n k => exact h
theorem ok_ddeeds {f : Addr} {fd : FuncData} (F : Fun K "_law_deeds" "_law_deeds" sDeeds f fd) (T : Bl K mg) (d_of : DnG P w K mg base "_law_of" 2 ["_law_box_here", "_law_some"] spOf) (d_take : DnG P w K mg base "_law_take" 1 ["_law_box_here", "_law_many"] spTake)
    (d_name : DnG P w K mg base "_law_name" 3 ["_law_box_here"] spDName) (d_literal : DnG P w K mg base "_law_literal" 3 ["_law_box_here"] spDLit) : FnG P w K mg base CX0 4 f fd ["_law_box_here"] (spDDeeds K) := by
  refine okG0 F scD6 (fun vs H Q E h => ?_) (fun cdv A outer s H vs Q E hr hG h => ?_)
  · obtain ⟨b, n, rfl, _⟩ := h
    rfl
  · obtain ⟨b, n, rfl, hB, hn, q⟩ := h
    refine ⟨_, (pss_cons (ps_set (i := 1) scD6.nd rfl (Or.inl rfl) (pe_dnewP (P := P) (w := w) rfl rfl))
      (pss_cons (ps_for PassesOwn.never rfl (pi_range1 (by rfl) T.range (pa_cons (pe_callG d_take.ok (hr.mono (by omega)) hG (by rfl) d_take.g d_take.kp d_take.b .nil pass0 (pa_cons (pv 0) (pa_cons pe_int pa_nil))) pa_nil)) (pg_name (i := 2) scD6.nd rfl (Or.inl rfl))
        (pss_cons (ps_par (i := 3) (j := 4) (by rfl) scD6.nd rfl rfl (by decide) rfl rfl (pa_cons (pe_callG d_of.ok (hr.mono (by omega)) hG (by rfl) d_of.g d_of.kp d_of.b .nil pass0 (pa_cons (pv 0) (pa_cons (pe_lst (pa_cons pe_str (pa_cons pe_str (pa_cons pe_str pa_nil)))) pa_nil))) (pa_cons (pe_tup (pa_cons (pe_callG d_name.ok (hr.mono (by omega)) hG (by rfl) d_name.g d_name.kp d_name.b .nil pass0 (pa_cons (pv 0) pa_nil)) pa_nil)) pa_nil)) (by rfl))
        (pss_cons (ps_for PassesOwn.never rfl (pi_range1 (by rfl) T.range (pa_cons (pe_callG d_take.ok (hr.mono (by omega)) hG (by rfl) d_take.g d_take.kp d_take.b .nil pass0 (pa_cons (pv 0) (pa_cons pe_int pa_nil))) pa_nil)) (pg_name (i := 5) scD6.nd rfl (Or.inl rfl))
          (pss_one (ps_set (i := 4) scD6.nd rfl (Or.inl rfl) (pe_op (r := rCatA K) op_catA (pv 4) (pe_tup (pa_cons (pe_callG d_of.ok (hr.mono (by omega)) hG (by rfl) d_of.g d_of.kp d_of.b .nil pass0 (pa_cons (pv 0) (pa_cons (pe_lst (pa_cons pe_str (pa_cons (pe_callG d_name.ok (hr.mono (by omega)) hG (by rfl) d_name.g d_name.kp d_name.b .nil pass0 (pa_cons (pv 0) pa_nil)) pa_nil))) pa_nil))) pa_nil))))))
        (pss_cons (ps_set (i := 6) scD6.nd rfl (Or.inl rfl) (pe_callG d_of.ok (hr.mono (by omega)) hG (by rfl) d_of.g d_of.kp d_of.b .nil pass0 (pa_cons (pv 0) (pa_cons (pe_lst (pa_cons (pe_tup (pa_cons pe_str (pa_cons (pv 3) (pa_cons (pv 4) pa_nil)))) (pa_cons (pe_tup (pa_cons pe_str (pa_cons pe_str (pa_cons (pe_tup (pa_cons (pe_callG d_take.ok (hr.mono (by omega)) hG (by rfl) d_take.g d_take.kp d_take.b .nil pass0 (pa_cons (pv 0) (pa_cons pe_int pa_nil))) (pa_cons (pe_callG d_name.ok (hr.mono (by omega)) hG (by rfl) d_name.g d_name.kp d_name.b .nil pass0 (pa_cons (pv 0) pa_nil)) pa_nil))) pa_nil)))) pa_nil))) pa_nil))))
        (pss_cons (ps_set (i := 7) scD6.nd rfl (Or.inl rfl) (pe_callTy call_tuple_of (by rfl) T.tuple (by decide +kernel) (pa_cons (pe_lc (own := [("_law_other", 5)]) (g := gName 5) (by rfl) scD6.nd (pi_range1 (by rfl) T.range (pa_cons (pe_callG d_take.ok (hr.mono (by omega)) hG (by rfl) d_take.g d_take.kp d_take.b .nil pass0 (pa_cons (pv 0) (pa_cons pe_int pa_nil))) pa_nil)) (blkOk_by (own := [("_law_other", 5)]) (N := ["_law_box_here", "_law_found", "_law_turn", "_law_owner", "_law_names", "_law_other", "_law_spot", "_law_rows", "_law_order", "_law_deed"]) (sc := defScope sDeeds) (by decide +kernel)) (fun _ _ _ _ _ => (pg_name (i := 5) scD6.nd rfl (Or.inl rfl))) (fun _ _ _ _ _ => pts_nil) (fun _ _ _ _ _ => (pe_callG d_take.ok (hr.mono (by omega)) hG (by rfl) d_take.g d_take.kp d_take.b .nil pass0 (pa_cons (pv 0) (pa_cons pe_int pa_nil))))) pa_nil)))
        (pss_cons (ps_set (i := 8) scD6.nd rfl (Or.inl rfl) (pe_tup (pa_cons pe_str (pa_cons (pe_callG d_name.ok (hr.mono (by omega)) hG (by rfl) d_name.g d_name.kp d_name.b .nil pass0 (pa_cons (pv 0) pa_nil)) (pa_cons pe_str (pa_cons (pv 7) pa_nil))))))
        (pss_cons (ps_set (i := 9) scD6.nd rfl (Or.inl rfl) (pe_callG d_of.ok (hr.mono (by omega)) hG (by rfl) d_of.g d_of.kp d_of.b .nil pass0 (pa_cons (pv 0) (pa_cons (pe_lst (pa_cons (pe_tup (pa_cons pe_str (pa_cons (pv 6) (pa_cons (pe_callG d_literal.ok (hr.mono (by omega)) hG (by rfl) d_literal.g d_literal.kp d_literal.b .nil pass0 (pa_cons (pv 0) pa_nil)) pa_nil)))) (pa_cons (pe_tup (pa_cons pe_str (pa_cons (pv 6) pa_nil))) (pa_cons (pv 8) pa_nil)))) pa_nil))))
        (pss_one (ps_asg (pv 9) (pg_sub (pv 1) (pe_ifExp (pt_cmpR op_eq (pe_ix (r := rIxT K) ix_tup (pv 9) pe_int (fun _ _ => rfl)) pe_str (nomark _)) (pe_slice (r := rSlA K) sl_tupA (pv 9) (po_some pe_int) (po_some pe_int)) (pe_ix (r := rIxT K) ix_tup (pv 9) pe_int (fun _ _ => rfl))) (set_nd hr.units)))))))))))
      (pss_one (ps_ret (pe_callTy call_tuple_of (by rfl) T.tuple (by decide +kernel) (pa_cons (pe_callB (r := rSortV P w K) (cr_sortV rfl hr.units) (by rfl) T.sorted (by decide +kernel) (pa_cons (pe_vals (pv 1)) pa_nil)) pa_nil)))))), ?_⟩
    refine fun d nd lo => ?_
    have db := hB.ne nd
    have B0 := hB.new (u := ndO P w d []) db
    refine ⟨.ref b, rfl, b, 6, n, rfl, B0, by omega, by decide, by decide, fun r u r0 r1 B1 => ?_⟩
    obtain ⟨k, rfl⟩ : ∃ k : Nat, r = k := ⟨r.toNat, by omega⟩
    have o1 : Off b H (upd (upd H d (ndO P w d [])) b u) := (Off.new nd).trans Off.box
    have N1 : Ents P w K (upd (upd H d (ndO P w d [])) b u) d [] 0 := ⟨⟨by rw [upd_ne db]; exact upd_same, lo, List.nodup_nil, (fun e he => nomatch he)⟩, Nat.le_refl _, List.nodup_nil, (fun e he => nomatch he), (fun e he => nomatch he)⟩
    generalize upd (upd H d (ndO P w d [])) b u = H1 at B1 o1 N1
    refine ⟨k, rfl, by omega, by omega, for_range (lo := 0) (n := k) (DInv P w K b d H n) ⟨[], none, none, none, none, none, none, none, none, rfl, o1, B1, N1, fun e he => nomatch he⟩ (fun i σ H2 hi hP => ?_) (fun σ H2 hP => ?_)⟩
    · obtain ⟨us, y2, y3, y4, y5, y6, y7, y8, y9, rfl, o2, B2, E2, nb⟩ := hP
      have hc : n + 1 + i * 20 < 860000 := by omega
      generalize hN : n + 1 + i * 20 = N at B2 hc
      -- the owner and the first name
      refine ⟨.ref b, rfl, by show 3 ≤ sizeLine; decide, fun l3 nl3 => ⟨b, l3, _, _, rfl, upd_same, B2.ne nl3, B2.new (B2.ne nl3), by omega, by show 0 < 3; decide, by show 3 < 1000000; decide, fun v3 u3 hv3 B3 => ?_⟩⟩
      obtain ⟨ow, rfl, how, hog⟩ : ∃ ow : Str, v3 = .str ow ∧ (ow = "" ∨ isName ow = true) ∧ ow ≠ "goods" := by
        have all : ∀ v ∈ ([.str "", .str "box", .str "wide"] : List V), ∃ ow : Str, v = .str ow ∧ (ow = "" ∨ isName ow = true) ∧ ow ≠ "goods" := by
          refine List.forall_mem_cons.mpr ⟨⟨_, rfl, .inl rfl, by decide +kernel⟩, List.forall_mem_cons.mpr ⟨⟨_, rfl, .inr (by decide +kernel), by decide +kernel⟩, List.forall_mem_cons.mpr ⟨⟨_, rfl, .inr (by decide +kernel), by decide +kernel⟩, List.forall_mem_nil _⟩⟩⟩
        exact all _ hv3
      have o3 : Off b H2 (upd (upd H2 l3 (.lst [.str "", .str "box", .str "wide"])) b u3) := (Off.new nl3).trans Off.box
      generalize upd (upd H2 l3 (.lst [.str "", .str "box", .str "wide"])) b u3 = H3 at B3 o3
      refine ⟨.ref b, rfl, b, _, rfl, B3, by omega, fun x4 H4 nm4 o4 B4 => ⟨by show 1 ≤ sizeLine; decide, fun t5 nt5 => ⟨.str ow, .ref t5, rfl, ?_⟩⟩⟩
      have B5 := B4.new (u := .tup [.str x4]) (B4.ne nt5)
      have T5 : TV K (upd H4 t5 (.tup [.str x4])) (.ref t5) (pathD [.w x4]) := .tup (SqT.of upd_same) (.cons (.str x4) .nil)
      have o5 : Off b H2 (upd H4 t5 (.tup [.str x4])) := o3.trans (o4.trans (Off.new nt5))
      generalize upd H4 t5 (.tup [.str x4]) = H5 at B5 T5 o5
      clear nt5 B4 o4 o3 B3 nl3 hv3
      -- further names
      refine ⟨.ref b, rfl, b, 3, _, rfl, B5, by omega, by decide, by decide, fun r6 u6 r60 r61 B6 => ?_⟩
      obtain ⟨k6, rfl⟩ : ∃ k : Nat, r6 = k := ⟨r6.toNat, by omega⟩
      have T6 := T5.tk (box_tk B5 (Off.box (u := u6)))
      have o6 : Off b H2 (upd H5 b u6) := o5.trans Off.box
      generalize upd H5 b u6 = H6 at B6 T6 o6
      clear B5 T5 o5
      refine ⟨k6, rfl, by omega, by omega, for_range (lo := 0) (n := k6) (fun j σ H7 => ∃ (a : Addr) (p : Path) (z5 : Option V), σ = [some (.ref b), some (.ref d), some (.int (0 + (i : Nat))), some (.str ow), some (.ref a), z5, y6, y7, y8, y9] ∧ Off b H2 H7 ∧ Box H7 b (N + 3 + 2 * j) ∧ TV K H7 (.ref a) (pathD p) ∧ p ≠ [] ∧ p.length = j + 1 ∧ ∀ l ∈ p, (∃ y, l = Lab.w y) ∧ l.rd [("*" : Str)])
        ⟨t5, [.w x4], y5, rfl, o6, B6, T6, by simp, rfl, fun l hl => ?_⟩ (fun j σ H7 hj hP => ?_) (fun σ H7 hP => ?_)⟩
      · obtain rfl : l = .w x4 := by simpa using hl
        exact ⟨⟨x4, rfl⟩, .inl nm4⟩
      · obtain ⟨a, p, z5, rfl, o7, B7, tv7, pne, pl, pg⟩ := hP
        refine ⟨.ref a, rfl, .ref b, rfl, .ref b, rfl, b, _, rfl, B7, by omega, fun x8 H8 nm8 o8 B8 => ⟨by show 2 ≤ sizeLine; decide, fun l9 nl9 => ⟨b, l9, _, _, rfl, upd_same, B8.ne nl9, B8.new (B8.ne nl9), by omega, by show 0 < 2; decide, by show 2 < 1000000; decide, fun v9 u9 hv9 B9 => ?_⟩⟩⟩
        obtain ⟨x9, rfl, hx9⟩ : ∃ x : Str, v9 = .str x ∧ (Lab.w x).rd [("*" : Str)] := by
          have all : ∀ v ∈ ([.str "*", .str x8] : List V), ∃ x : Str, v = .str x ∧ (Lab.w x).rd [("*" : Str)] := by
            refine List.forall_mem_cons.mpr ⟨⟨_, rfl, .inr (List.mem_cons_self ..)⟩, List.forall_mem_cons.mpr ⟨⟨_, rfl, .inl nm8⟩, List.forall_mem_nil _⟩⟩
          exact all _ hv9
        have o9 : Off b H7 (upd (upd H8 l9 (.lst [.str "*", .str x8])) b u9) := o8.trans ((Off.new nl9).trans Off.box)
        have tv9 := tv7.tk (box_tk B7 o9)
        generalize upd (upd H8 l9 (.lst [.str "*", .str x8])) b u9 = H9 at B9 o9 tv9
        refine ⟨by show 1 ≤ sizeLine; decide, fun t10 nt10 => ?_⟩
        have s10 := same_new (o := .tup [.str x9]) nt10
        have B10 := B9.new (u := .tup [.str x9]) (B9.ne nt10)
        obtain ⟨a', xs, ea, hT, ts⟩ := tv9.ofTup
        obtain rfl : a = a' := by injection ea
        obtain rfl := ts.labs
        have pne2 : p.map Lab.v ≠ [] := by simpa using pne
        refine ⟨a, t10, _, _, rfl, rfl, SqT.tk (tk_same s10) hT, SqT.of upd_same, ?_, fun z => absurd z pne2, fun _ z => (by cases z), fun _ _ p11 np11 => ?_⟩
        · rw [List.length_map]
          exact big_le (by show p.length + 1 ≤ _; omega)
        · have s11 := same_new (o := .tup (p.map Lab.v ++ [.str x9])) np11
          refine ⟨p11, p ++ [.w x9], _, rfl, o7.trans (o9.trans (off_same (s10.trans s11))), (B10.new (B10.ne np11)).mono (by omega), ?_, by simp, by rw [List.length_append, pl]; rfl, fun l hl => ?_⟩
          · have e : (p ++ [Lab.w x9]).map Lab.v = p.map Lab.v ++ [V.str x9] := by
              rw [List.map_append]
              rfl
            have hT11 : SqT K (upd (upd H9 t10 (.tup [.str x9])) p11 (.tup (p.map Lab.v ++ [.str x9]))) p11 ((p ++ [Lab.w x9]).map Lab.v) := by
              rw [e]
              exact SqT.of upd_same
            exact .tup hT11 (labs_tv (p ++ [.w x9]))
          · rcases List.mem_append.mp hl with hl | hl
            · exact pg l hl
            · obtain rfl : l = .w x9 := by simpa using hl
              exact ⟨⟨x9, rfl⟩, hx9⟩
      · obtain ⟨a, p, z5, rfl, o7, B7, tv7, pne, pl, pg⟩ := hP
        have B7 := B7.mono (show N + 3 + 2 * k6 ≤ N + 7 by omega)
        have g1 := Spot.mk_ok how pne (by omega) fun l hl => (pg l hl).2
        -- the spot
        refine ⟨.ref b, rfl, .str ow, rfl, .ref a, rfl, by show 3 ≤ sizeLine; decide, fun t8 nt8 => ?_⟩
        have s8 := same_new (o := .tup [.str "main", .str ow, .ref a]) nt8
        have B8 := B7.new (u := .tup [.str "main", .str ow, .ref a]) (B7.ne nt8)
        have T8 : TV K (upd H7 t8 (.tup [.str "main", .str ow, .ref a])) (.ref t8) (Spot.mk "main" ow p).d := .tup (SqT.of upd_same) (.cons (.str "main") (.cons (.str ow) (.cons (tv7.tk (tk_same s8)) .nil)))
        have o8 : Off b H2 (upd H7 t8 (.tup [.str "main", .str ow, .ref a])) := o7.trans (off_same s8)
        generalize upd H7 t8 (.tup [.str "main", .str ow, .ref a]) = H8 at B8 T8 o8
        clear s8 nt8 tv7 B7 o7 T6 B6 o6
        refine ⟨.ref b, rfl, b, 12, _, rfl, B8, by omega, by decide, by decide, fun r9 u9 r90 r91 B9 => ?_⟩
        obtain ⟨k9, rfl⟩ : ∃ k : Nat, r9 = k := ⟨r9.toNat, by omega⟩
        refine ⟨.ref b, rfl, b, _, rfl, B9, by omega, fun x10 H10 nm10 o10 B10 => ⟨by show 2 ≤ sizeLine; decide, fun t11 nt11 => ⟨by show 3 ≤ sizeLine; decide, fun t12 nt12 => ⟨by show 2 ≤ sizeLine; decide, fun l13 nl13 => ?_⟩⟩⟩⟩
        have o810 : Off b H8 H10 := Off.box.trans o10
        have s11 := same_new (o := .tup [.int (k9 : Nat), .str x10]) nt11
        have T11 : TV K (upd H10 t11 (.tup [.int (k9 : Nat), .str x10])) (.ref t11) (pathD [.n k9, .w x10]) := .tup (SqT.of upd_same) (.cons (.int (k9 : Nat)) (.cons (.str x10) .nil))
        have s12 := same_new (o := .tup [.str "main", .str "goods", .ref t11]) nt12
        have T12 : TV K (upd (upd H10 t11 (.tup [.int (k9 : Nat), .str x10])) t12 (.tup [.str "main", .str "goods", .ref t11])) (.ref t12) (Spot.mk "main" "goods" [.n k9, .w x10]).d := .tup (SqT.of upd_same) (.cons (.str "main") (.cons (.str "goods") (.cons (T11.tk (tk_same s12)) .nil)))
        have s13 := same_new (o := .lst [.ref t8, .ref t12]) nl13
        have B11 := B10.new (u := .tup [.int (k9 : Nat), .str x10]) (B10.ne nt11)
        have B12 := B11.new (u := .tup [.str "main", .str "goods", .ref t11]) (B11.ne nt12)
        have B13 := B12.new (u := .lst [.ref t8, .ref t12]) (B12.ne nl13)
        have T8 := (T8.tk (box_tk B8 o810)).tk (tk_same (s11.trans (s12.trans s13)))
        have T12 := T12.tk (tk_same s13)
        have o13 := o8.trans (o810.trans (off_same (s11.trans (s12.trans s13))))
        have h13 : (upd (upd (upd H10 t11 (.tup [.int (k9 : Nat), .str x10])) t12 (.tup [.str "main", .str "goods", .ref t11])) l13 (.lst [.ref t8, .ref t12])) l13 = some (.lst [.ref t8, .ref t12]) := upd_same
        have l13b := B12.ne nl13
        generalize upd (upd (upd H10 t11 (.tup [.int (k9 : Nat), .str x10])) t12 (.tup [.str "main", .str "goods", .ref t11])) l13 (.lst [.ref t8, .ref t12]) = H13 at B13 T8 T12 o13 h13
        clear B12 B11 s13 s12 s11 T11 o810 B10 o10 B9 B8 o8 nt11 nt12 nl13
        have g2 := Spot.mk_ok (o := "goods") (p := [.n k9, .w x10]) (.inr (by decide +kernel)) (by simp) (by show 2 ≤ 60; decide) (fun l hl => by
          rcases List.mem_cons.mp hl with rfl | hl
          · show k9 < 2 ^ 60
            omega
          · obtain rfl : l = .w x10 := by simpa using hl
            exact .inl nm10)
        refine ⟨b, l13, _, _, rfl, h13, l13b, B13, by omega, by show 0 < 2; decide, by show 2 < 1000000; decide, fun v14 u14 hv14 B14 => ?_⟩
        have tk14 := box_tk B13 (Off.box (u := u14))
        have o14 : Off b H2 (upd H13 b u14) := o13.trans Off.box
        generalize upd H13 b u14 = H14 at B14 tk14 o14
        obtain ⟨sp, asp, rfl, Tsp, osp, rsp, wsp⟩ : ∃ (sp : Spot) (asp : Addr), v14 = .ref asp ∧ TV K H14 (.ref asp) sp.d ∧ sp.ok ∧ sp.rd ∧ SpW sp := by
          have all : ∀ v ∈ ([.ref t8, .ref t12] : List V), ∃ (sp : Spot) (asp : Addr), v = .ref asp ∧ TV K H14 (.ref asp) sp.d ∧ sp.ok ∧ sp.rd ∧ SpW sp := by
            refine List.forall_mem_cons.mpr ⟨⟨_, t8, rfl, T8.tk tk14, g1.1, g1.2, rfl, .inl ⟨hog, fun l hl => (pg l hl).1⟩⟩, List.forall_mem_cons.mpr ⟨⟨_, t12, rfl, T12.tk tk14, g2.1, g2.2, rfl, .inr ⟨rfl, k9, x10, rfl⟩⟩, List.forall_mem_nil _⟩⟩
          exact all _ hv14
        clear T8 T12 tk14 B13 o13 h13 hv14 g1 g2 pg
        -- the rows
        refine ⟨.ref b, rfl, b, 4, _, rfl, B14, by omega, by decide, by decide, fun r15 u15 r150 r151 B15 => ?_⟩
        obtain ⟨k15, rfl⟩ : ∃ k : Nat, r15 = k := ⟨r15.toNat, by omega⟩
        have Tsp := Tsp.tk (box_tk B14 (Off.box (u := u15)))
        have o15 : Off b H2 (upd H14 b u15) := o14.trans Off.box
        generalize upd H14 b u15 = H15 at B15 Tsp o15
        clear B14 o14
        refine ⟨k15, rfl, by omega, by omega, fun D nD => ?_⟩
        have bD := B15.ne nD
        refine lc_range (lo := 0) (n := k15) (fun j H16 => ∃ ks : List Nat, H16 D = some (.lst (ks.map intV)) ∧ ks.length = j ∧ (∀ x ∈ ks, x < 2 ^ 60) ∧ Off b H15 H16 ∧ Box H16 b (N + 11 + j)) ⟨[], upd_same, rfl, (fun x hx => nomatch hx), Off.new nD, B15.new bD⟩ (fun j H16 hj hP => ?_) (fun H16 hP => ?_)
        · obtain ⟨ks, hD, lk, kk, o16, B16⟩ := hP
          refine ⟨rfl, .ref b, rfl, b, 40, _, rfl, B16, by omega, by decide, by decide, fun r17 u17 r170 r171 B17 => ?_⟩
          obtain ⟨k17, rfl⟩ : ∃ k : Nat, r17 = k := ⟨r17.toNat, by omega⟩
          have hD17 : (upd H16 b u17) D = some (.lst (ks.map intV)) := by
            rw [upd_ne bD]
            exact hD
          refine ⟨_, hD17, ?_, ks ++ [k17], ?_, by rw [List.length_append, lk]; rfl, fun x hx => ?_, (o16.trans Off.box).put nD, B17.new bD⟩
          · rw [List.length_map]
            exact Nat.lt_of_lt_of_le (by omega : ks.length < 1001) (big_le (n := 1001) (by decide))
          · rw [upd_same, List.map_append]
            rfl
          · rcases List.mem_append.mp hx with hx | hx
            · exact kk x hx
            · obtain rfl : x = k17 := by simpa using hx
              omega
        · obtain ⟨ks, hD, lk, kk, o16, B16⟩ := hP
          have B16 := B16.mono (show N + 11 + k15 ≤ N + 14 by omega)
          refine ⟨D, _, rfl, .inl ⟨SqL.of hD, fun t17 nt17 => ?_⟩⟩
          have s17 := same_new (o := .tup (ks.map intV)) nt17
          have B17 := B16.new (u := .tup (ks.map intV)) (B16.ne nt17)
          have T17 : TV K (upd H16 t17 (.tup (ks.map intV))) (.ref t17) (.tuple (ks.map intD)) := .tup (SqT.of upd_same) (ints_tv ks)
          have Tsp := (Tsp.tk (box_tk B15 o16)).tk (tk_same s17)
          have o17 := o15.trans (o16.trans (off_same s17))
          generalize upd H16 t17 (.tup (ks.map intV)) = H17 at B17 T17 Tsp o17
          clear s17 nt17 hD B16 o16 B15 o15 nD
          -- the order
          refine ⟨.ref b, rfl, b, _, rfl, B17, by omega, fun x18 H18 nm18 o18 B18 => ⟨.ref t17, rfl, by show 4 ≤ sizeLine; decide, fun t19 nt19 => ?_⟩⟩
          have s19 := same_new (o := .tup [.str "order", .str x18, .str "people", .ref t17]) nt19
          have B19 := B18.new (u := .tup [.str "order", .str x18, .str "people", .ref t17]) (B18.ne nt19)
          have tk1719 := (box_tk B17 o18).trans (tk_same s19)
          have T19 : TV K (upd H18 t19 (.tup [.str "order", .str x18, .str "people", .ref t17])) (.ref t19) (Dd.order x18 "people" ks).d := .tup (SqT.of upd_same) (.cons (.str "order") (.cons (.str x18) (.cons (.str "people") (.cons ((T17.tk (box_tk B17 o18)).tk (tk_same s19)) .nil))))
          have Tsp := Tsp.tk tk1719
          have o19 := o17.trans (o18.trans (off_same s19))
          have n19 : H2 t19 = none := off_none (o17.trans o18) (B18.ne nt19) nt19
          have e19 : (upd H18 t19 (.tup [.str "order", .str x18, .str "people", .ref t17])) t19 = some (.tup [.str "order", .str x18, .str "people", .ref t17]) := upd_same
          have t19b := B18.ne nt19
          generalize upd H18 t19 (.tup [.str "order", .str x18, .str "people", .ref t17]) = H19 at B19 T19 Tsp o19 e19
          clear tk1719 s19 nt19 T17 B18 o18 B17 o17
          -- the deed
          refine ⟨.ref b, rfl, .ref asp, rfl, .ref b, rfl, b, _, rfl, B19, by omega, fun lt H20 lok lrd o20 B20 => ⟨by show 3 ≤ sizeLine; decide, fun t21 nt21 => ?_⟩⟩
          have s21 := same_new (o := .tup [.str "set", .ref asp, lt.v]) nt21
          have B21 := B20.new (u := .tup [.str "set", .ref asp, lt.v]) (B20.ne nt21)
          have tk1921 := (box_tk B19 o20).trans (tk_same s21)
          have T21 : TV K (upd H20 t21 (.tup [.str "set", .ref asp, lt.v])) (.ref t21) (Dd.set sp lt).d := .tup (SqT.of upd_same) (.cons (.str "set") (.cons (Tsp.tk tk1921) (.cons lt.tv .nil)))
          have Tsp := Tsp.tk tk1921
          have T19 := T19.tk tk1921
          have e19 := s21 _ _ (o20 _ _ t19b e19)
          have o21 := o19.trans (o20.trans (off_same s21))
          have n21 : H2 t21 = none := off_none (o19.trans o20) (B20.ne nt21) nt21
          have e21 : (upd H20 t21 (.tup [.str "set", .ref asp, lt.v])) t21 = some (.tup [.str "set", .ref asp, lt.v]) := upd_same
          have t21b := B20.ne nt21
          generalize upd H20 t21 (.tup [.str "set", .ref asp, lt.v]) = H21 at B21 T21 Tsp T19 e19 o21 e21
          clear tk1921 s21 nt21 B20 o20 B19 o19
          refine ⟨.ref asp, rfl, by show 2 ≤ sizeLine; decide, fun t22 nt22 => ?_⟩
          have s22 := same_new (o := .tup [.str "gone", .ref asp]) nt22
          have B22 := B21.new (u := .tup [.str "gone", .ref asp]) (B21.ne nt22)
          have T22 : TV K (upd H21 t22 (.tup [.str "gone", .ref asp])) (.ref t22) (Dd.gone sp).d := .tup (SqT.of upd_same) (.cons (.str "gone") (.cons (Tsp.tk (tk_same s22)) .nil))
          have T21 := T21.tk (tk_same s22)
          have T19 := T19.tk (tk_same s22)
          have e19 := s22 _ _ e19
          have e21 := s22 _ _ e21
          have n22 : H2 t22 = none := off_none o21 (B21.ne nt22) nt22
          have e22 : (upd H21 t22 (.tup [.str "gone", .ref asp])) t22 = some (.tup [.str "gone", .ref asp]) := upd_same
          have t22b := B21.ne nt22
          have o22 := o21.trans (off_same s22)
          generalize upd H21 t22 (.tup [.str "gone", .ref asp]) = H22 at B22 T22 T21 T19 e19 e21 e22 o22
          clear s22 nt22 B21 o21 Tsp
          refine ⟨.ref t19, rfl, by show 3 ≤ sizeLine; decide, fun l23 nl23 => ?_⟩
          have s23 := same_new (o := .lst [.ref t21, .ref t22, .ref t19]) nl23
          have B23 := B22.new (u := .lst [.ref t21, .ref t22, .ref t19]) (B22.ne nl23)
          refine ⟨b, l23, _, _, rfl, upd_same, B22.ne nl23, B23, by omega, by show 0 < 3; decide, by show 3 < 1000000; decide, fun v24 u24 hv24 B24 => ?_⟩
          have tk24 : TK H22 (upd (upd H22 l23 (.lst [.ref t21, .ref t22, .ref t19])) b u24) := (tk_same s23).trans (box_tk B23 Off.box)
          have o2224 : Off b H22 (upd (upd H22 l23 (.lst [.ref t21, .ref t22, .ref t19])) b u24) := (off_same s23).trans Off.box
          generalize upd (upd H22 l23 (.lst [.ref t21, .ref t22, .ref t19])) b u24 = H24 at B24 tk24 o2224
          obtain ⟨x, vd, rfl, Tx, gx, nx, ⟨ox, ex⟩, xb⟩ : ∃ (x : Dd) (vd : Addr), v24 = .ref vd ∧ TV K H24 (.ref vd) x.d ∧ DdG x ∧ H2 vd = none ∧ (∃ o, H24 vd = some o) ∧ vd ≠ b := by
            have all : ∀ v ∈ ([.ref t21, .ref t22, .ref t19] : List V), ∃ (x : Dd) (vd : Addr), v = .ref vd ∧ TV K H24 (.ref vd) x.d ∧ DdG x ∧ H2 vd = none ∧ (∃ o, H24 vd = some o) ∧ vd ≠ b := by
              refine List.forall_mem_cons.mpr ⟨⟨_, t21, rfl, T21.tk tk24, ⟨⟨osp, lok⟩, ⟨rsp, lrd⟩, wsp⟩, n21, ⟨_, o2224 _ _ t21b e21⟩, t21b⟩, List.forall_mem_cons.mpr ⟨⟨_, t22, rfl, T22.tk tk24, ⟨osp, rsp, wsp⟩, n22, ⟨_, o2224 _ _ t22b e22⟩, t22b⟩, List.forall_mem_cons.mpr ⟨⟨_, t19, rfl, T19.tk tk24, ⟨⟨?_, by decide, ?_, kk⟩, ⟨nm18, by decide +kernel, ?_, kk⟩, rfl⟩, n19, ⟨_, o2224 _ _ t19b e19⟩, t19b⟩, List.forall_mem_nil _⟩⟩⟩
              · have := (name_low nm18).2.2
                omega
              · omega
              · omega
            exact all _ hv24
          have o24 := o22.trans o2224
          have E24 : Ents P w K H24 d us i := E2.off B2 o24 db nb
          clear T21 T22 T19 tk24 o2224 s23 nl23 hv24 B23 B22 o22 e19 e21 e22 n19 n21 n22
          -- into the dict
          have fin : ∀ (H25 : Hp) (kb : Addr) (σ' : L2.St), Same H24 H25 → TV K H25 (.ref kb) x.dk → Box H25 b (N + 20) → (∃ y2 y3 y4 y5 y6 y7 y8 y9, σ' = [some (.ref b), some (.ref d), y2, y3, y4, y5, y6, y7, y8, y9]) → rSetN P w K (.ref d) (.ref kb) (.ref vd) H25 (fun H' => DInv P w K b d H n (i + 1) σ' H') := fun H25 kb σ' s25 tk25 B25 hσ => by
            obtain ⟨y2, y3, y4, y5, y6, y7, y8, y9, rfl⟩ := hσ
            have N25 := E24.nd.same s25
            refine ⟨d, kb, vd, keyD' x.dk, us, rfl, rfl, rfl, N25, by rw [key_data x.dk_td]; exact tk25, x.dk_dep, by have := E24.len; omega, fun nd' => ?_⟩
            have tkS := tk_nd (u := ndO P w d (stU us (keyD' x.dk) kb vd)) N25
            have nd25 : ∀ e ∈ us, e.2.2 ≠ vd := fun e he z => by
              obtain ⟨o, ho⟩ := E2.there e he
              rw [z, nx] at ho
              cases ho
            refine ⟨stU us (keyD' x.dk) kb vd, y2, y3, y4, y5, y6, y7, y8, y9, rfl, (o2.trans (o24.trans (off_same s25))).put nd, ?_, ⟨nd', ?_, stU_vals N25.nd E24.vals nd25, fun e he => ?_, fun e he => ?_⟩, fun e he => ?_⟩
            · refine (B25.new db).mono ?_
              rw [Nat.add_mul, Nat.one_mul]
              omega
            · have := stU_len us (keyD' x.dk) kb vd
              have := E24.len
              omega
            · by_cases z : e.2.2 = d
              · rw [z]
                exact ⟨_, upd_same⟩
              · rw [upd_ne z]
                rcases stU_mem he with h1 | ⟨_, h2, _⟩
                · obtain ⟨o, ho⟩ := E24.there e h1
                  exact ⟨o, s25 _ _ ho⟩
                · rw [h2]
                  exact ⟨_, s25 _ _ ex⟩
            · rcases stU_mem he with h1 | ⟨h1, h2, _⟩
              · obtain ⟨y, g1, g2, g3⟩ := E24.deed e h1
                exact ⟨y, g1, (g2.tk (tk_same s25)).tk tkS, g3⟩
              · refine ⟨x, h1, ?_, gx⟩
                rw [h2]
                exact (Tx.tk (tk_same s25)).tk tkS
            · rcases stU_mem he with h1 | ⟨_, h2, _⟩
              · exact nb e h1
              · rw [h2]
                exact xb
          cases x with
          | set s l =>
            obtain ⟨vd', xs, ev, hB, tb⟩ := Tx.ofTup
            obtain rfl : vd = vd' := by injection ev
            obtain ⟨u1, u2, u3, rfl, t1, t2, t3⟩ := tb.of3
            obtain rfl := t1.ofStr
            obtain ⟨a2, _, rfl, _⟩ := t2.ofTup
            refine ⟨.ref vd, rfl, .ref d, rfl, .ref vd, rfl, vd, _, 0, .str "set", rfl, rfl, hB, rfl, rfl, _, rfl, iteF ⟨.ref vd, rfl, vd, _, 1, .ref a2, rfl, rfl, hB, rfl, ?_⟩⟩
            exact fin H24 a2 _ (Same.refl _) t2 (B24.mono (by omega)) ⟨_, _, _, _, _, _, _, _, rfl⟩
          | gone s =>
            obtain ⟨vd', xs, ev, hB, tb⟩ := Tx.ofTup
            obtain rfl : vd = vd' := by injection ev
            obtain ⟨u1, u2, rfl, t1, t2⟩ := tb.of2
            obtain rfl := t1.ofStr
            obtain ⟨a2, _, rfl, _⟩ := t2.ofTup
            refine ⟨.ref vd, rfl, .ref d, rfl, .ref vd, rfl, vd, _, 0, .str "gone", rfl, rfl, hB, rfl, rfl, _, rfl, iteF ⟨.ref vd, rfl, vd, _, 1, .ref a2, rfl, rfl, hB, rfl, ?_⟩⟩
            exact fin H24 a2 _ (Same.refl _) t2 (B24.mono (by omega)) ⟨_, _, _, _, _, _, _, _, rfl⟩
          | order fx nx2 kx =>
            obtain ⟨vd', xs, ev, hB, tb⟩ := Tx.ofTup
            obtain rfl : vd = vd' := by injection ev
            obtain ⟨u1, r1, rfl, t1, tb⟩ := tb.ofCons
            obtain ⟨u2, u3, u4, rfl, t2, t3, t4⟩ := tb.of3
            obtain rfl := t1.ofStr
            obtain rfl := t2.ofStr
            obtain rfl := t3.ofStr
            refine ⟨.ref vd, rfl, .ref d, rfl, .ref vd, rfl, vd, _, 0, .str "order", rfl, rfl, hB, rfl, rfl, _, rfl, iteT ⟨.ref vd, rfl, 1, rfl, 3, rfl, vd, _, rfl, hB, fun z => absurd z.1 (show ¬ HT.sIx 4 0 (some 1) = 0 by decide), fun _ p25 np25 => ?_⟩⟩
            have s25 := same_new (o := .tup [.str fx, .str nx2]) np25
            exact fin _ p25 _ s25 (.tup (SqT.of upd_same) (.cons (.str fx) (.cons (.str nx2) .nil))) ((B24.new (B24.ne np25)).mono (by omega)) ⟨_, _, _, _, _, _, _, _, rfl⟩
    · obtain ⟨us, y2, y3, y4, y5, y6, y7, y8, y9, rfl, o2, B2, E2, nb⟩ := hP
      obtain ⟨g, hg⟩ := pick_dd (R := fun e x => e.1 = keyD' x.dk ∧ TV K H2 (.ref e.2.2) x.d ∧ DdG x) E2.deed E2.vals
      refine ⟨.ref d, rfl, d, us, rfl, E2.nd, fun p3 np3 => ?_⟩
      have s3 := same_new (o := valsO p3 d) np3
      have E3 := E2.nd.same s3
      have getD : ∀ a ∈ us.map (fun e => e.2.2), ∃ x, g a = some x ∧ TV K (upd H2 p3 (valsO p3 d)) (.ref a) x.d ∧ DdG x ∧ ∃ e ∈ us, e.2.2 = a ∧ e.1 = keyD' x.dk := fun a ha => by
        obtain ⟨e, he, rfl⟩ := List.mem_map.mp ha
        obtain ⟨x, e1, e2, e3, e4⟩ := hg e he
        exact ⟨x, e1, e3.tk (tk_same s3), e4, e, he, rfl, e2⟩
      have apart : ∀ {a c : Addr} {x y : Dd}, (∃ e ∈ us, e.2.2 = a ∧ e.1 = keyD' x.dk) → (∃ e ∈ us, e.2.2 = c ∧ e.1 = keyD' y.dk) → a ≠ c → x.dk ≠ y.dk := fun {a c x y} h1 h2 ne z => by
        obtain ⟨e, he, rfl, e1⟩ := h1
        obtain ⟨e', he', rfl, e2⟩ := h2
        have e3 : e.1 = e'.1 := by rw [e1, e2, z]
        have h3 := List.pairwise_map.mp E2.nd.nd
        rcases List.mem_iff_getElem.mp he with ⟨i1, hi1, q1⟩
        rcases List.mem_iff_getElem.mp he' with ⟨i2, hi2, q2⟩
        rcases Nat.lt_trichotomy i1 i2 with lt | eq | gt
        · exact List.pairwise_iff_getElem.mp h3 i1 i2 hi1 hi2 lt (by rw [q1, q2]; exact e3)
        · subst eq
          exact ne (by rw [← q1, ← q2])
        · exact List.pairwise_iff_getElem.mp h3 i2 i1 hi2 hi1 gt (by rw [q1, q2]; exact e3.symm)
      have good : GoodD K (upd H2 p3 (valsO p3 d)) (fun a => ((g a).map Dd.d).getD .none) (us.map fun e => e.2.2) := by
        refine ⟨fun a ha => ?_, fun a ha => ?_, fun a ha => ?_, fun a ha => ?_, fun a ha c hc => ?_⟩
        · obtain ⟨x, e1, e2, _⟩ := getD a ha
          simp only [e1]
          exact e2
        · obtain ⟨x, e1, e2, _⟩ := getD a ha
          simp only [e1]
          exact x.d_td
        · obtain ⟨x, e1, e2, _⟩ := getD a ha
          simp only [e1]
          exact x.d_dep
        · obtain ⟨x, e1, e2, _⟩ := getD a ha
          simp only [e1]
          obtain ⟨r, e3, _⟩ := x.d_hd
          exact ⟨_, r, e3⟩
        · obtain ⟨x, e1, e2, gx, hx⟩ := getD a ha
          obtain ⟨y, e3, e4, gy, hy⟩ := getD c hc
          simp only [e1, e3]
          by_cases z : a = c
          · subst z
            rw [e1] at e3
            obtain rfl : x = y := Option.some.inj e3
            obtain ⟨r, e5, _⟩ := x.d_hd
            show akin x.d x.d = true
            have := x.d_td
            rw [e5] at this ⊢
            exact akin_self this
          · exact (dd_lx gx.s gy.s (apart hx hy z)).1
      refine ⟨p3, d, us, _, rfl, upd_same, E3, by have := E2.len; omega, good, fun ys q4 hs pm nq4 => ?_⟩
      have s4 := same_new (o := .lst (ys.map V.ref)) nq4
      refine ⟨q4, ys.map V.ref, rfl, .inl ⟨SqL.of upd_same, fun t5 nt5 => ?_⟩⟩
      have s5 := same_new (o := .tup (ys.map V.ref)) nt5
      have mem : ∀ a ∈ ys, a ∈ us.map fun e => e.2.2 := fun a ha => pm.mem_iff.mp ha
      obtain ⟨e, he, hge⟩ : ∃ e : List Dd, ys.map g = e.map some ∧ e.length = ys.length := by
        have : ∀ l : List Addr, (∀ a ∈ l, ∃ x, g a = some x) → ∃ e : List Dd, l.map g = e.map some ∧ e.length = l.length := by
          intro l
          induction l with
          | nil => exact fun _ => ⟨[], rfl, rfl⟩
          | cons a l ih =>
            intro h
            obtain ⟨x, hx⟩ := h a (List.mem_cons_self ..)
            obtain ⟨e, h1, h2⟩ := ih fun c hc => h c (List.mem_cons_of_mem _ hc)
            exact ⟨x :: e, by rw [List.map_cons, List.map_cons, hx, h1], by rw [List.length_cons, List.length_cons, h2]⟩
        exact this ys fun a ha => by
          obtain ⟨x, h1, _⟩ := getD a (mem a ha)
          exact ⟨x, h1⟩
      have back : ∀ x ∈ e, ∃ a ∈ ys, g a = some x := fun x hx => by
        have h1 : some x ∈ ys.map g := by
          rw [he]
          exact List.mem_map.mpr ⟨x, hx, rfl⟩
        obtain ⟨a, ha, h2⟩ := List.mem_map.mp h1
        exact ⟨a, ha, h2⟩
      have tvs : ∀ (l : List Addr) (e : List Dd), (∀ a ∈ l, a ∈ us.map fun e => e.2.2) → l.map g = e.map some → TVs K (upd H2 p3 (valsO p3 d)) (l.map V.ref) (e.map Dd.d) := by
        intro l
        induction l with
        | nil =>
          intro e _ h
          obtain rfl : e = [] := by simpa using h.symm
          exact .nil
        | cons a l ih =>
          intro e hm h
          cases e with
          | nil => cases h
          | cons x e =>
            rw [List.map_cons, List.map_cons] at h
            obtain ⟨h1, h2⟩ := List.cons.inj h
            obtain ⟨y, q1, q2, _⟩ := getD a (hm a (List.mem_cons_self ..))
            rw [q1] at h1
            obtain rfl : y = x := Option.some.inj h1
            exact .cons q2 (ih e (fun c hc => hm c (List.mem_cons_of_mem _ hc)) h2)
      have ndys : ys.Nodup := pm.nodup_iff.mpr E2.vals
      have hpw : e.Pairwise fun x y => lxT (PySem.W.keyToks x.k) (PySem.W.keyToks y.k) = true := by
        have h1 : (ys.map g).Pairwise fun o o' => ∀ x y, o = some x → o' = some y → lxT (PySem.W.keyToks x.k) (PySem.W.keyToks y.k) = true := by
          refine List.pairwise_map.mpr ((hs.and ndys).imp_of_mem fun {a c} ha hc hq x y hx hy => ?_)
          obtain ⟨hq, hne⟩ := hq
          obtain ⟨x', q1, _, gx, px⟩ := getD a (mem a ha)
          obtain ⟨y', q2, _, gy, py⟩ := getD c (mem c hc)
          rw [hx] at q1
          rw [hy] at q2
          obtain rfl := Option.some.inj q1
          obtain rfl := Option.some.inj q2
          simp only [ltA, hx, hy] at hq
          exact dd_sorted gx.s gy.s (apart px py hne) hq
        rw [he] at h1
        exact (List.pairwise_map.mp h1).imp fun {x y} h => h x y rfl rfl
      have hnd : (e.map fun x => keyD' x.tg).Nodup := by
        have h1 : (ys.map g).Pairwise fun o o' => ∀ x y, o = some x → o' = some y → keyD' x.tg ≠ keyD' y.tg := by
          refine List.pairwise_map.mpr (ndys.imp_of_mem fun {a c} ha hc hne x y hx hy z => ?_)
          obtain ⟨x', q1, _, gx, px⟩ := getD a (mem a ha)
          obtain ⟨y', q2, _, gy, py⟩ := getD c (mem c hc)
          rw [hx] at q1
          rw [hy] at q2
          obtain rfl := Option.some.inj q1
          obtain rfl := Option.some.inj q2
          refine apart px py hne ?_
          have z2 : keyD' x.dk = keyD' y.dk := tg_dk z
          rw [← key_data x.dk_td, ← key_data y.dk_td, z2]
        rw [he] at h1
        exact List.pairwise_map.mpr ((List.pairwise_map.mp h1).imp fun {x y} h => h x y rfl rfl)
      have ll : e.length ≤ 5 := by
        have h1 := pm.length_eq
        rw [List.length_map] at h1
        have := E2.len
        omega
      have T5 : TV K (upd (upd (upd H2 p3 (valsO p3 d)) q4 (.lst (ys.map V.ref))) t5 (.tup (ys.map V.ref))) (.ref t5) (.tuple (e.map Dd.d)) := .tup (SqT.of upd_same) ((tvs ys e mem he).tk (tk_same (s4.trans s5)))
      have B3 := B2.new (u := valsO p3 d) (B2.ne np3)
      have B4 := B3.new (u := .lst (ys.map V.ref)) (B3.ne nq4)
      exact q _ t5 e (o2.trans (off_same (s3.trans (s4.trans s5)))) ((B4.new (B4.ne nt5)).mono (by omega)) T5 ll (fun x hx => by
        obtain ⟨a, ha, h1⟩ := back x hx
        obtain ⟨y, h2, _, h3, _⟩ := getD a (mem a ha)
        rw [h1] at h2
        obtain rfl := Option.some.inj h2
        exact h3) hpw hnd
end
end M91

set_option Elab.async false
set_option linter.all false
set_option maxRecDepth 100000
set_option maxHeartbeats 4000000
/-! how long repr of edits and plans is at most -/
namespace M91
open PySem PySem.Spec PyProof.Rows L2 GL TL
structure Shw (x : PyData) (D n : Nat) : Prop where
  s : x.showable = true
  d : x.depth ≤ D
  l : x.shown.length ≤ n
structure Shws (ds : List PyData) (D n : Nat) : Prop where
  s : PyData.showableAll ds = true
  d : PyData.depthAll ds ≤ D
  l : ((PyData.shownAll ds).map (·.length)).sum + 2 * (PyData.shownAll ds).length ≤ n
theorem Shw.mono {x : PyData} {D n D' n' : Nat} (h : Shw x D n) (h1 : D ≤ D') (h2 : n ≤ n') : Shw x D' n' := ⟨h.s, Nat.le_trans h.d h1, Nat.le_trans h.l h2⟩
theorem Shws.mono {x : List PyData} {D n D' n' : Nat} (h : Shws x D n) (h1 : D ≤ D') (h2 : n ≤ n') : Shws x D' n' := ⟨h.s, Nat.le_trans h.d h1, Nat.le_trans h.l h2⟩
theorem shws_nil {D : Nat} : Shws [] D 0 := ⟨rfl, Nat.zero_le _, Nat.le_refl _⟩
theorem Shw.cons {x : PyData} {xs : List PyData} {D n m : Nat} (h : Shw x D n) (g : Shws xs D m) : Shws (x :: xs) D (n + 2 + m) := by
  refine ⟨?_, ?_, ?_⟩
  · rw [PyData.showableAll, h.s, g.s]
    rfl
  · rw [PyData.depthAll]
    have := h.d
    have := g.d
    omega
  · rw [PyData.shownAll, List.map_cons, List.sum_cons, List.length_cons]
    have := h.l
    have := g.l
    omega
theorem joinS_le : ∀ ts : List Str, (Str.join ", " ts).length ≤ (ts.map (·.length)).sum + 2 * ts.length
  | [] => Nat.zero_le _
  | x :: r => by
    have h := StrLaws.join_length_le ", " (x :: r)
    have e : (", " : Str).length = 2 := rfl
    rw [e] at h
    omega
theorem Shws.tup {xs : List PyData} {D n : Nat} (h : Shws xs D n) : Shw (.tuple xs) (D + 1) (n + 3) := by
  refine ⟨?_, ?_, ?_⟩
  · rw [PyData.showable]
    exact h.s
  · rw [PyData.depth]
    have := h.d
    omega
  · rw [PyData.shown]
    have h1 := joinS_le (PyData.shownAll xs)
    have h2 := h.l
    unfold tupleText
    rw [len_app, len_app]
    have e1 : ("(" : Str).length = 1 := rfl
    have e2 : ((if (PyData.shownAll xs).length == 1 then ",)" else ")" : String) : Str).length ≤ 2 := by
      split <;> decide
    omega
theorem textFrom_le : ∀ (ts : List Str) (k : Nat) (acc : Str), (textFrom k acc ts).length ≤ acc.length + (ts.map (·.length)).sum + 2 * ts.length
  | [], k, acc => by
    show acc.length ≤ _
    omega
  | t :: r, k, acc => by
    have h := textFrom_le r (k + 1) (acc ++ (if k > 0 then ", " else "" : String) ++ t)
    rw [len_app, len_app] at h
    have e : ((if k > 0 then ", " else "" : String) : Str).length ≤ 2 := by split <;> decide
    show (textFrom (k + 1) (acc ++ (if k > 0 then ", " else "" : String) ++ t) r).length ≤ _
    rw [List.map_cons, List.sum_cons, List.length_cons]
    omega
theorem Shws.lst {xs : List PyData} {D n : Nat} (h : Shws xs D n) : Shw (.list xs) (D + 1) (n + 3) := by
  refine ⟨?_, ?_, ?_⟩
  · rw [PyData.showable]
    exact h.s
  · rw [PyData.depth]
    have := h.d
    omega
  · rw [PyData.shown]
    have h1 := textFrom_le (PyData.shownAll xs) 0 "["
    have h2 := h.l
    unfold listText
    rw [len_app]
    have e1 : ("[" : Str).length = 1 := rfl
    have e2 : ("]" : Str).length = 1 := rfl
    omega
theorem shw_str {x : Str} (h : ∀ c ∈ cs x, c < 16 ^ 8) : Shw (.str x) 0 (10 * x.length + 2) := ⟨rfl, Nat.le_refl _, StrLaws.reprText_len x h⟩
theorem shw_name {x : Str} (h : isName x = true) : Shw (.str x) 0 122 := by
  refine (shw_str fun c hc => ?_).mono (Nat.le_refl _) ?_
  · have := low_mem (name_low h).1 c hc
    omega
  · have := (name_low h).2.2
    omega
theorem shw_int {i : Int} (h : i.natAbs < 2 ^ 60) : Shw (.int i) 0 30 := ⟨by rw [PyData.showable]; exact decide_eq_true (log_le h), Nat.le_refl _, nT_len h⟩
theorem Lit.shw {l : Lit} (h : l.rd) : Shw l.d 0 (12 * l.t.length) := by
  cases l with
  | s x =>
    have h : Part x := h
    refine (shw_str fun c hc => ?_).mono (Nat.le_refl _) ?_
    · have := (h.2 c hc).2.1
      omega
    · show _ ≤ 12 * ("\"" ++ x ++ "\"").length
      rw [len_app, len_app]
      have e : ("\"" : Str).length = 1 := rfl
      omega
  | i n =>
    have h : n.natAbs < 2 ^ 60 := h
    refine ⟨(shw_int h).s, (shw_int h).d, ?_⟩
    show (nT n).length ≤ 12 * (nT n).length
    omega
mutual
theorem Wo.shw : ∀ {w : Wo}, w.ok → w.rd → Shw w.d (4 * w.h) (12 * w.m)
  | .lit l, _, h => Lit.shw h
  | .rc r, ok, h => by
    have := (Rc.shw (r := r) ok.2 h).tup
    exact this.mono (by show _ ≤ 4 * (r.h + 1); omega) (by show _ ≤ 12 * (4 + r.m); omega)
  | .rw t, ok, h => by
    have := (Rw.shw (t := t) ok h).tup
    exact this.mono (by show _ ≤ 4 * (t.h + 1); omega) (by show _ ≤ 12 * (4 + t.m); omega)
theorem Rc.shw : ∀ {r : Rc}, r.ok → r.rd → Shws r.ds (1 + 4 * r.h) (12 * r.m)
  | .nil, _, _ => shws_nil.mono (Nat.zero_le _) (Nat.zero_le _)
  | .cons n w r, ok, h => by
    have hn := low_mem (name_low h.1).1
    have h1 : Shw (.str n) (4 * w.h) (10 * n.length + 2) := (shw_str fun c hc => by have := hn c hc; omega).mono (Nat.zero_le _) (Nat.le_refl _)
    have h2 := Wo.shw (w := w) ok.2.1 h.2.1
    have h3 := Rc.shw (r := r) ok.2.2 h.2.2
    have h4 : Shw (.tuple [.str n, w.d]) (4 * w.h + 1) _ := (h1.cons (h2.cons shws_nil)).tup
    have e : (Rc.cons n w r).h = max w.h r.h := rfl
    have e2 : (Rc.cons n w r).m = n.length + 3 + w.m + r.m := rfl
    rw [e, e2]
    exact ((h4.mono (D' := 1 + 4 * max w.h r.h) (by omega) (Nat.le_refl _)).cons (h3.mono (by omega) (Nat.le_refl _))).mono (Nat.le_refl _) (by omega)
theorem Rw.shw : ∀ {t : Rw}, t.ok → t.rd → Shws t.ds (3 + 4 * t.h) (12 * t.m)
  | .nil, _, _ => shws_nil.mono (Nat.zero_le _) (Nat.zero_le _)
  | .cons k r t, ok, h => by
    have hk : ((k : Nat) : Int).natAbs < 2 ^ 60 := by
      have := ok.1
      simpa using this
    have h0 : Shw (.int (k : Nat)) (2 + 4 * r.h) (nT (k : Nat)).length := ⟨(shw_int hk).s, Nat.zero_le _, Nat.le_refl _⟩
    have h1 := (Rc.shw (r := r) ok.2.1 h.2.1).tup
    have h3 := Rw.shw (t := t) ok.2.2 h.2.2
    have h4 : Shw (.tuple [.int (k : Nat), .tuple r.ds]) (2 + 4 * r.h + 1) _ := (h0.cons ((h1.mono (by omega) (Nat.le_refl _)).cons shws_nil)).tup
    have e : (Rw.cons k r t).h = max r.h t.h := rfl
    have e2 : (Rw.cons k r t).m = (nT k).length + 7 + r.m + t.m := rfl
    rw [e, e2]
    exact ((h4.mono (D' := 3 + 4 * max r.h t.h) (by omega) (Nat.le_refl _)).cons (h3.mono (by omega) (Nat.le_refl _))).mono (Nat.le_refl _) (by omega)
end
theorem Lab.shw {l : Lab} (h : l.rd [("*" : Str)]) : Shw l.d 0 122 := by
  cases l with
  | w x =>
    rcases h with h | h
    · exact shw_name h
    · obtain rfl : x = "*" := by simpa using h
      exact ⟨rfl, Nat.le_refl _, by decide +kernel⟩
  | n k =>
    have h : k < 2 ^ 60 := h
    exact (shw_int (i := (k : Nat)) (by simpa using h)).mono (Nat.le_refl _) (by decide)
theorem path_shw : ∀ {p : Path}, (∀ l ∈ p, l.rd [("*" : Str)]) → Shws (p.map Lab.d) 0 (124 * p.length)
  | [], _ => shws_nil
  | l :: r, h => by
    have h1 := (Lab.shw (h l (List.mem_cons_self ..))).cons (path_shw (p := r) fun x hx => h x (List.mem_cons_of_mem _ hx))
    exact h1.mono (Nat.le_refl _) (by rw [List.length_cons]; omega)
theorem pathD_shw {p : Path} (h : ∀ l ∈ p, l.rd [("*" : Str)]) (h60 : p.length ≤ 60) : Shw (pathD p) 1 8000 := (path_shw h).tup.mono (Nat.le_refl _) (by omega)
theorem place_shw {x : Place} (h : Place.rd x) : Shw (placeD x) 2 9000 := by
  have h1 := pathD_shw (p := x.2) (fun l hl => Lab.star (h.2.2.2 l hl)) h.2.2.1
  exact (((shw_name h.1).mono (D' := 1) (Nat.zero_le _) (Nat.le_refl _)).cons (h1.cons shws_nil)).tup.mono (Nat.le_refl _) (by decide)
theorem spot_shw {x : Spot} (h : x.rd) : Shw x.d 2 9000 := by
  have h1 := pathD_shw h.2.2.2.2 h.2.2.2.1
  have h2 : Shw (.str x.o) 1 122 := by
    rcases h.2.1 with e | e
    · rw [e]
      exact ⟨rfl, Nat.zero_le _, by decide +kernel⟩
    · exact (shw_name e).mono (Nat.zero_le _) (Nat.le_refl _)
  exact (((shw_name h.1).mono (D' := 1) (Nat.zero_le _) (Nat.le_refl _)).cons (h2.cons (h1.cons shws_nil))).tup.mono (Nat.le_refl _) (by decide)
theorem shw_word (x : Str) {D : Nat} (h : (reprText x).length ≤ 30) : Shw (.str x) D 30 := ⟨rfl, Nat.zero_le _, h⟩
theorem shw_nat {k D : Nat} (h : k < 2 ^ 60) : Shw (.int (k : Nat)) D 30 := (shw_int (i := (k : Nat)) (by simpa using h)).mono (Nat.zero_le _) (Nat.le_refl _)
theorem Stp.shw {x : Stp} (h : StpG x) : Shw x.d 20 1000000 := by
  obtain ⟨ok, mm, rd⟩ := h
  cases x with
  | set p l =>
    have h1 := (place_shw rd.1).mono (D' := 10) (by decide) (Nat.le_refl _)
    have h2 := (Lit.shw rd.2).mono (D' := 10) (n' := 1000) (Nat.zero_le _) (by have := Lit.len ok.2; omega)
    exact ((shw_word "set" (by decide +kernel)).cons (h1.cons (h2.cons shws_nil))).tup.mono (by decide) (by decide)
  | take p k =>
    have h1 := (place_shw rd.1).mono (D' := 10) (by decide) (Nat.le_refl _)
    exact ((shw_word "take" (by decide +kernel)).cons (h1.cons ((shw_nat rd.2).cons shws_nil))).tup.mono (by decide) (by decide)
  | put p i k r =>
    have h1 := (place_shw rd.1).mono (D' := 16) (by decide) (Nat.le_refl _)
    have hm : r.m ≤ 72261 := mm.1
    have hh : r.h ≤ 3 := mm.2
    have h2 := (Rc.shw ok.2.2.2.1 rd.2.2.2.1).tup.mono (D' := 16) (n' := 900000) (by omega) (by omega)
    exact ((shw_word "put" (by decide +kernel)).cons (h1.cons ((shw_nat rd.2.1).cons ((shw_nat rd.2.2.1).cons (h2.cons shws_nil))))).tup.mono (by decide) (by decide)
  | carry p k q i =>
    have h1 := (place_shw rd.1).mono (D' := 10) (by decide) (Nat.le_refl _)
    have h2 := (place_shw rd.2.2.1).mono (D' := 10) (by decide) (Nat.le_refl _)
    exact ((shw_word "carry" (by decide +kernel)).cons (h1.cons ((shw_nat rd.2.1).cons (h2.cons ((shw_nat rd.2.2.2).cons shws_nil))))).tup.mono (by decide) (by decide)
theorem ints_shw : ∀ {ks : List Nat}, (∀ k ∈ ks, k < 2 ^ 60) → Shws (ks.map intD) 0 (32 * ks.length)
  | [], _ => shws_nil
  | k :: r, h => by
    have h1 := (shw_nat (D := 0) (h k (List.mem_cons_self ..))).cons (ints_shw (ks := r) fun x hx => h x (List.mem_cons_of_mem _ hx))
    exact h1.mono (Nat.le_refl _) (by rw [List.length_cons]; omega)
theorem Dd.shw {x : Dd} (h : DdG x) : Shw x.d 20 100000 := by
  obtain ⟨ok, rd, _⟩ := h
  cases x with
  | set s l =>
    have h1 := (spot_shw rd.1).mono (D' := 10) (by decide) (Nat.le_refl _)
    have h2 := (Lit.shw rd.2).mono (D' := 10) (n' := 1000) (Nat.zero_le _) (by have := Lit.len ok.2; omega)
    exact ((shw_word "set" (by decide +kernel)).cons (h1.cons (h2.cons shws_nil))).tup.mono (by decide) (by decide)
  | gone s =>
    have h1 := (spot_shw rd).mono (D' := 10) (by decide) (Nat.le_refl _)
    exact ((shw_word "gone" (by decide +kernel)).cons (h1.cons shws_nil)).tup.mono (by decide) (by decide)
  | order f n ks =>
    have h1 := (ints_shw rd.2.2.2).tup.mono (D' := 10) (n' := 33000) (by decide) (by have := rd.2.2.1; omega)
    exact ((shw_word "order" (by decide +kernel)).cons (((shw_name rd.1).mono (D' := 10) (Nat.zero_le _) (Nat.le_refl _)).cons (((shw_name rd.2.1).mono (D' := 10) (Nat.zero_le _) (Nat.le_refl _)).cons (h1.cons shws_nil)))).tup.mono (by decide) (by decide)
theorem all_shw {α : Type} {f : α → PyData} {D n : Nat} : ∀ {e : List α}, (∀ x ∈ e, Shw (f x) D n) → Shws (e.map f) D ((n + 2) * e.length)
  | [], _ => shws_nil
  | x :: e, h => by
    have h1 := (h x (List.mem_cons_self ..)).cons (all_shw (e := e) fun y hy => h y (List.mem_cons_of_mem _ hy))
    refine h1.mono (Nat.le_refl _) ?_
    rw [List.length_cons, Nat.mul_add, Nat.mul_one]
    omega
/-- the four, as repr has to show them -/
theorem four_shw {e : List Stp} {p : List Dd} (he : ∀ x ∈ e, StpG x) (le : e.length ≤ 4) (hp : ∀ x ∈ p, DdG x) (lp : p.length ≤ 5) :
    Shw (.list [.tuple (e.map Stp.d), .tuple (e.map Stp.d), .tuple (p.map Dd.d), .tuple (p.map Dd.d)]) 60 sizeLine := by
  have h1 := (all_shw fun x hx => Stp.shw (he x hx)).tup.mono (D' := 21) (n' := 4000100) (by decide) (by
    have : (1000000 + 2) * e.length ≤ (1000000 + 2) * 4 := Nat.mul_le_mul_left _ le
    omega)
  have h2 := (all_shw fun x hx => Dd.shw (hp x hx)).tup.mono (D' := 21) (n' := 600000) (by decide) (by
    have : (100000 + 2) * p.length ≤ (100000 + 2) * 5 := Nat.mul_le_mul_left _ lp
    omega)
  exact (h1.cons (h1.cons (h2.cons (h2.cons shws_nil)))).lst.mono (by decide) (by decide)
end M91

set_option Elab.async false
set_option linter.all false
set_option maxRecDepth 100000
set_option maxHeartbeats 8000000
/-! written and read: right -/
namespace M91
open PySem PySem.Spec PyProof.Rows L2 GL TL
theorem scD7 : FnScope ["_law_box_here", "_law_steps", "_law_deeds_here", "_law_told", "_law_found"] ["_law_box_here"] (defScope sRight) := ⟨rfl, rfl, rfl, by decide +kernel, rfl, by decide +kernel, by decide +kernel⟩
def gK : List V → List V → List V
  | [], [v] => [v]
  | _, _ => []
def gKv : List Value → List Value → List Value
  | [], [v] => [v]
  | _, _ => []
theorem gK_rel : ∀ {vs : List V} {us : List Value} {zs : List V} {ws : List Value}, Vals vs us → Vals zs ws → Vals (gK vs zs) (gKv us ws)
  | _, _, _, _, .cons _ _, _ => .nil
  | _, _, _, _, .nil, .nil => .nil
  | _, _, _, _, .nil, .cons p .nil => .cons p .nil
  | _, _, _, _, .nil, .cons _ (.cons _ _) => .nil
section
variable {P : Program} {w : World} {K : PySem.W.Frag} {mg : Str → Option Value} {base : Heap}
theorem box_same {H H' : Hp} {b : Addr} {n : Nat} (h : Box H b n) (s : Same H H') : Box H' b n := by
  obtain ⟨o, m, c, h1, h2⟩ := h
  exact ⟨o, m, c, s _ _ h1, h2⟩
theorem stp_all {e : List Stp} (h : ∀ x ∈ e, StpG x) : (∀ x ∈ e, x.ok) ∧ ∀ x ∈ e, x.rd := ⟨fun x hx => (h x hx).1, fun x hx => (h x hx).2.2⟩
def spRight : Sp := fun vs H Q _ => ∃ (b : Addr) (n : Nat), vs = [.ref b] ∧ Box H b n ∧ n < 800000 ∧ ∀ H', Off b H H' → Box H' b (n + 23201) → Q (.bl true) H'
theorem ok_right {f : Addr} {fd : FuncData} (F : Fun K "_law_right" "_law_right" sRight f fd) (T : Bl K mg) (d_edit : DnG P w K mg base "_law_edit" 8 ["_law_box_here"] (spDEdit K)) (d_deeds : DnG P w K mg base "_law_deeds" 4 ["_law_box_here"] (spDDeeds K))
    (d_show_edit : DnG P w K mg base "show_edit" 128 ["edit"] (spShowE K)) (kb_show_edit : KBinds K d_show_edit.fd ["edit"] ["edit"] gKv gK) (d_show_plan : DnG P w K mg base "show_plan" 5 ["plan"] (spShowP K)) (kb_show_plan : KBinds K d_show_plan.fd ["plan"] ["plan"] gKv gK)
    (d_edit_text : DnG P w K mg base "_law_edit_text" 128 ["_law_made_of"] (spShowE K)) (d_plan_text : DnG P w K mg base "_law_plan_text" 5 ["_law_made_of"] (spShowP K)) (d_read_edit : DnG P w K mg base "read_edit" 129 ["text"] (spReadE K)) (kb_read_edit : KBinds K d_read_edit.fd ["text"] ["text"] gKv gK)
    (d_read_plan : DnG P w K mg base "read_plan" 6 ["text"] (spReadP K)) (kb_read_plan : KBinds K d_read_plan.fd ["text"] ["text"] gKv gK) : FnG P w K mg base CX0 130 f fd ["_law_box_here"] spRight := by
  refine okG0 F scD7 (fun vs H Q E h => ?_) (fun cdv A outer s H vs Q E hr hG h => ?_)
  · obtain ⟨b, n, rfl, _⟩ := h
    rfl
  · obtain ⟨b, n, rfl, hB, hn, q⟩ := h
    refine ⟨_, (pss_cons (ps_par (i := 1) (j := 2) (by rfl) scD7.nd rfl rfl (by decide) rfl rfl (pa_cons (pe_callG d_edit.ok (hr.mono (by omega)) hG (by rfl) d_edit.g d_edit.kp d_edit.b .nil pass0 (pa_cons (pv 0) pa_nil)) (pa_cons (pe_callG d_deeds.ok (hr.mono (by omega)) hG (by rfl) d_deeds.g d_deeds.kp d_deeds.b .nil pass0 (pa_cons (pv 0) pa_nil)) pa_nil)) (by rfl))
      (pss_cons (ps_set (i := 3) scD7.nd rfl (Or.inl rfl) (pe_lstB (pa_cons (pe_callG d_show_edit.ok (hr.mono (by omega)) hG (by rfl) d_show_edit.g d_show_edit.kp d_show_edit.b .nil pass0 (pa_cons (pv 1) pa_nil)) (pa_cons (pe_callK0G d_show_edit.ok (hr.mono (by omega)) hG (by rfl) d_show_edit.g d_show_edit.kp kb_show_edit pass0 (pk_cons (pv 1) pk_nil)) (pa_cons (pe_callG d_show_plan.ok (hr.mono (by omega)) hG (by rfl) d_show_plan.g d_show_plan.kp d_show_plan.b .nil pass0 (pa_cons (pv 2) pa_nil)) (pa_cons (pe_callK0G d_show_plan.ok (hr.mono (by omega)) hG (by rfl) d_show_plan.g d_show_plan.kp kb_show_plan pass0 (pk_cons (pv 2) pk_nil)) pa_nil))))))
      (pss_cons (ps_if (pt_cmpR (op_neS hr.units0) (pv 3) (pe_op op_cat (pe_op op_rep (pe_lstB (pa_cons (pe_callG d_edit_text.ok (hr.mono (by omega)) hG (by rfl) d_edit_text.g d_edit_text.kp d_edit_text.b .nil pass0 (pa_cons (pv 1) pa_nil)) pa_nil)) pe_int) (pe_op op_rep (pe_lstB (pa_cons (pe_callG d_plan_text.ok (hr.mono (by omega)) hG (by rfl) d_plan_text.g d_plan_text.kp d_plan_text.b .nil pass0 (pa_cons (pv 2) pa_nil)) pa_nil)) pe_int)) (nomark _))
        (pss_one (ps_ret pe_bl))
        pss_nil)
      (pss_cons (ps_set (i := 4) scD7.nd rfl (Or.inl rfl) (pe_lstB (pa_cons (pe_callG d_read_edit.ok (hr.mono (by omega)) hG (by rfl) d_read_edit.g d_read_edit.kp d_read_edit.b .nil pass0 (pa_cons (pe_ix (r := rIxL K) ix_list (pv 3) pe_int (fun _ _ => rfl)) pa_nil)) (pa_cons (pe_callK0G d_read_edit.ok (hr.mono (by omega)) hG (by rfl) d_read_edit.g d_read_edit.kp kb_read_edit pass0 (pk_cons (pe_ix (r := rIxL K) ix_list (pv 3) pe_int (fun _ _ => rfl)) pk_nil)) (pa_cons (pe_callG d_read_plan.ok (hr.mono (by omega)) hG (by rfl) d_read_plan.g d_read_plan.kp d_read_plan.b .nil pass0 (pa_cons (pe_ix (r := rIxL K) ix_list (pv 3) pe_int (fun _ _ => rfl)) pa_nil)) (pa_cons (pe_callK0G d_read_plan.ok (hr.mono (by omega)) hG (by rfl) d_read_plan.g d_read_plan.kp kb_read_plan pass0 (pk_cons (pe_ix (r := rIxL K) ix_list (pv 3) pe_int (fun _ _ => rfl)) pk_nil)) pa_nil))))))
      (pss_one (ps_ret (pe_cmpR op_eq (pe_callB (r := rRepr K) (call_reprD hG hr.units) (by rfl) T.repr (by decide +kernel) (pa_cons (pv 4) pa_nil)) (pe_callB (r := rRepr K) (call_reprD hG hr.units) (by rfl) T.repr (by decide +kernel) (pa_cons (pe_lstB (pa_cons (pv 1) (pa_cons (pv 1) (pa_cons (pv 2) (pa_cons (pv 2) pa_nil))))) pa_nil)) (nomark _)))))))), ?_⟩
    refine ⟨.ref b, rfl, b, n, rfl, hB, by omega, fun H1 a1 e o1 B1 tv1 le ge => ⟨.ref b, rfl, b, _, rfl, B1, by omega, fun H2 a2 p o2 B2 tv2 lp gp pw nd => ⟨.ref a1, .ref a2, rfl, ?_⟩⟩⟩
    obtain ⟨eok, erd⟩ := stp_all ge
    have tv1 := tv1.tk (box_tk B1 o2)
    have pok : ∀ x ∈ p, x.ok := fun x hx => (gp x hx).ok
    have prd : ∀ x ∈ p, x.rd := fun x hx => (gp x hx).rd
    have e30 : e.length ≤ 30 := by omega
    have p30 : p.length ≤ 30 := by omega
    have o12 := o1.trans o2
    -- written
    refine ⟨.ref a1, rfl, .ref a1, e, rfl, tv1, e30, eok, fun H3 s3 => ⟨.ref a1, rfl, .ref a1, e, rfl, tv1.tk (tk_same s3), e30, eok, fun H4 s4 => ⟨.ref a2, rfl, .ref a2, p, rfl, tv2.tk (tk_same (s3.trans s4)), p30, pok, fun H5 s5 => ⟨.ref a2, rfl, .ref a2, p, rfl, tv2.tk (tk_same (s3.trans (s4.trans s5))), p30, pok, fun H6 s6 => ⟨by show 4 ≤ sizeLine; decide, fun l7 nl7 sl7 => ?_⟩⟩⟩⟩⟩
    have s7 := same_new (o := .lst [.str (eT e), .str (eT e), .str (pT p), .str (pT p)]) nl7
    have h7 : (upd H6 l7 (.lst [.str (eT e), .str (eT e), .str (pT p), .str (pT p)])) l7 = some (.lst ([eT e, eT e, pT p, pT p].map V.str)) := upd_same
    have sA : Same H2 (upd H6 l7 (.lst [.str (eT e), .str (eT e), .str (pT p), .str (pT p)])) := s3.trans (s4.trans (s5.trans (s6.trans s7)))
    generalize upd H6 l7 (.lst [.str (eT e), .str (eT e), .str (pT p), .str (pT p)]) = H7 at h7 sA
    clear s7 nl7 s6 s5 s4 s3
    have tv1 := tv1.tk (tk_same sA)
    have tv2 := tv2.tk (tk_same sA)
    -- as the law writes
    refine ⟨.ref l7, rfl, .ref a1, rfl, .ref a1, e, rfl, tv1, e30, eok, fun H8 s8 => ⟨by show 1 ≤ sizeLine; decide, fun l9 nl9 sl9 => ⟨l9, 2, [.str (eT e)], rfl, rfl, upd_same, by decide, by decide, by show 1 * 2 ≤ sizeLine; decide, fun l10 nl10 => ?_⟩⟩⟩
    have s9 := same_new (o := .lst [.str (eT e)]) nl9
    have s10 := same_new (o := .lst (List.replicate (2 : Int).toNat [V.str (eT e)]).flatten) nl10
    have sB := sA.trans (s8.trans (s9.trans s10))
    have s710 := s8.trans (s9.trans s10)
    have h10 : (upd (upd H8 l9 (.lst [.str (eT e)])) l10 (.lst (List.replicate (2 : Int).toNat [V.str (eT e)]).flatten)) l10 = some (.lst [.str (eT e), .str (eT e)]) := upd_same
    generalize upd (upd H8 l9 (.lst [.str (eT e)])) l10 (.lst (List.replicate (2 : Int).toNat [V.str (eT e)]).flatten) = H10 at h10 sB s710
    clear s8 s9 s10 nl9 nl10
    refine ⟨.ref a2, rfl, .ref a2, p, rfl, tv2.tk (tk_same s710), p30, pok, fun H11 s11 => ⟨by show 1 ≤ sizeLine; decide, fun l12 nl12 sl12 => ⟨l12, 2, [.str (pT p)], rfl, rfl, upd_same, by decide, by decide, by show 1 * 2 ≤ sizeLine; decide, fun l13 nl13 => ?_⟩⟩⟩
    have s12 := same_new (o := .lst [.str (pT p)]) nl12
    have s13 := same_new (o := .lst (List.replicate (2 : Int).toNat [V.str (pT p)]).flatten) nl13
    have h13 : (upd (upd H11 l12 (.lst [.str (pT p)])) l13 (.lst (List.replicate (2 : Int).toNat [V.str (pT p)]).flatten)) l13 = some (.lst [.str (pT p), .str (pT p)]) := upd_same
    have s1013 := s11.trans (s12.trans s13)
    generalize upd (upd H11 l12 (.lst [.str (pT p)])) l13 (.lst (List.replicate (2 : Int).toNat [V.str (pT p)]).flatten) = H13 at h13 s1013
    clear s11 s12 s13 nl12 nl13
    refine ⟨l10, l13, _, _, rfl, rfl, s1013 _ _ h10, h13, by show 2 + 2 ≤ sizeLine; decide, fun l14 nl14 => ?_⟩
    have s14 := same_new (o := .lst ([.str (eT e), .str (eT e)] ++ [.str (pT p), .str (pT p)])) nl14
    have h14 : (upd H13 l14 (.lst ([.str (eT e), .str (eT e)] ++ [.str (pT p), .str (pT p)]))) l14 = some (.lst ([eT e, eT e, pT p, pT p].map V.str)) := upd_same
    have s714 := s710.trans (s1013.trans s14)
    generalize upd H13 l14 (.lst ([.str (eT e), .str (eT e)] ++ [.str (pT p), .str (pT p)])) = H14 at h14 s714
    clear s14 nl14 h13 s1013 h10 s710 sB
    have h7 := s714 _ _ h7
    refine ⟨l7, l14, _, _, rfl, rfl, SqL.of h7, SqL.of h14, _, rfl, iteNS rfl ?_⟩
    have sC := sA.trans s714
    have tv1 := tv1.tk (tk_same s714)
    have tv2 := tv2.tk (tk_same s714)
    clear sA s714 h14
    -- read
    have hL : SqL K H14 l7 ([eT e, eT e, pT p, pT p].map V.str) := SqL.of h7
    refine ⟨.ref l7, rfl, l7, _, 0, .str (eT e), rfl, rfl, hL, rfl, e, rfl, e30, eok, erd, fun H15 a15 s15 tv15 => ?_⟩
    have hL15 : SqL K H15 l7 ([eT e, eT e, pT p, pT p].map V.str) := SqL.of (s15 _ _ h7)
    refine ⟨.ref l7, rfl, l7, _, 0, .str (eT e), rfl, rfl, hL15, rfl, e, rfl, e30, eok, erd, fun H16 a16 s16 tv16 => ?_⟩
    have hL16 : SqL K H16 l7 ([eT e, eT e, pT p, pT p].map V.str) := SqL.of (s16 _ _ (s15 _ _ h7))
    refine ⟨.ref l7, rfl, l7, _, 2, .str (pT p), rfl, rfl, hL16, rfl, p, rfl, by omega, pok, prd, pw, nd, fun H17 a17 s17 tv17 => ?_⟩
    have hL17 : SqL K H17 l7 ([eT e, eT e, pT p, pT p].map V.str) := SqL.of (s17 _ _ (s16 _ _ (s15 _ _ h7)))
    refine ⟨.ref l7, rfl, l7, _, 2, .str (pT p), rfl, rfl, hL17, rfl, p, rfl, by omega, pok, prd, pw, nd, fun H18 a18 s18 tv18 => ⟨by show 4 ≤ sizeLine; decide, fun l19 nl19 sl19 => ?_⟩⟩
    have s19 := same_new (o := .lst [.ref a15, .ref a16, .ref a17, .ref a18]) nl19
    have DV19 : DV K (upd H18 l19 (.lst [.ref a15, .ref a16, .ref a17, .ref a18])) (.ref l19) (.list [.tuple (e.map Stp.d), .tuple (e.map Stp.d), .tuple (p.map Dd.d), .tuple (p.map Dd.d)]) := .lst (SqL.of upd_same) sl19 (.cons (tv15.tk (tk_same (s16.trans (s17.trans (s18.trans s19))))).dv (.cons (tv16.tk (tk_same (s17.trans (s18.trans s19)))).dv (.cons (tv17.tk (tk_same (s18.trans s19))).dv (.cons (tv18.tk (tk_same s19)).dv .nil))))
    have s1419 := s15.trans (s16.trans (s17.trans (s18.trans s19)))
    generalize upd H18 l19 (.lst [.ref a15, .ref a16, .ref a17, .ref a18]) = H19 at DV19 s1419
    clear s19 nl19 s18 tv18 s17 tv17 s16 tv16 s15 tv15 hL hL15 hL16 hL17
    have shw := four_shw ge le gp lp
    refine ⟨.ref l19, rfl, .ref l19, _, rfl, DV19, shw.s, shw.d, shw.l, .ref a1, rfl, .ref a1, rfl, .ref a2, rfl, .ref a2, rfl, by show 4 ≤ sizeLine; decide, fun l20 nl20 sl20 => ?_⟩
    have s20 := same_new (o := .lst [.ref a1, .ref a1, .ref a2, .ref a2]) nl20
    have t1 := (tv1.tk (tk_same (s1419.trans s20))).dv
    have t2 := (tv2.tk (tk_same (s1419.trans s20))).dv
    refine ⟨.ref l20, _, rfl, .lst (SqL.of upd_same) sl20 (.cons t1 (.cons t1 (.cons t2 (.cons t2 .nil)))), shw.s, shw.d, shw.l, rfl, ?_⟩
    have fin := q (upd H19 l20 (.lst [.ref a1, .ref a1, .ref a2, .ref a2])) (o12.trans (off_same (sC.trans (s1419.trans s20)))) (box_same (B2.mono (by omega)) (sC.trans (s1419.trans s20)))
    rw [decide_eq_true rfl]
    exact fin
end
end M91

set_option Elab.async false
set_option linter.all false
set_option maxRecDepth 100000
set_option maxHeartbeats 8000000
/-! the law -/
namespace M91
open PySem PySem.Spec PyProof.Rows L2 GL TL
theorem scD8 : FnScope ["_law_script", "_law_k", "_law_box_here", "_law_page", "_law_turn"] ["_law_script"] (defScope sLaw) := ⟨rfl, rfl, rfl, by decide +kernel, rfl, by decide +kernel, by decide +kernel⟩
/-- { a: { a: .. 1 } } -/
def nest : Nat → Rc
  | 0 => .cons "a" (.lit (.i 1)) .nil
  | n + 1 => .cons "a" (.rc (nest n)) .nil
theorem nest_ne (n : Nat) : nest n ≠ .nil := by cases n <;> (intro h; cases h)
theorem nest_ok : ∀ n, (nest n).ok
  | 0 => ⟨by decide, (show (1 : Int).natAbs < 2 ^ 60 by decide), trivial⟩
  | n + 1 => ⟨by decide, ⟨nest_ne n, nest_ok n⟩, trivial⟩
theorem nest_rd : ∀ n, (nest n).rd
  | 0 => ⟨by decide +kernel, (show (1 : Int).natAbs < 2 ^ 60 by decide), trivial⟩
  | n + 1 => ⟨by decide +kernel, nest_rd n, trivial⟩
theorem nest_h : ∀ n, (nest n).h ≤ n
  | 0 => Nat.le_refl _
  | n + 1 => by
    have := nest_h n
    show max ((nest n).h + 1) 0 ≤ n + 1
    omega
theorem nest_m : ∀ n, (nest n).m ≤ 8 * n + 5
  | 0 => by decide +kernel
  | n + 1 => by
    have := nest_m n
    have e : ("a" : Str).length = 1 := rfl
    show ("a" : Str).length + 3 + (4 + (nest n).m) + 0 ≤ 8 * (n + 1) + 5
    omega
def pageS : Stp := .put ("main", [.w "a"]) 0 0 (nest 39)
theorem page_good : pageS.ok ∧ pageS.rd := by
  have g := Place.mk_good (x := "main") (p := [.w "a"]) (by decide +kernel) (by simp) (by decide) (fun l hl => by
    obtain rfl : l = .w "a" := by simpa using hl
    exact .inl (by decide +kernel))
  have h1 := nest_h 39
  have h2 := nest_m 39
  exact ⟨⟨g.1, by decide, by decide, nest_ok 39, by omega, by omega⟩, g.2, by decide, by decide, nest_rd 39, by omega⟩
end M91

set_option Elab.async false
set_option linter.all false
set_option maxRecDepth 100000
namespace M91
open PySem PySem.Spec PyProof.Rows L2 GL TL
theorem folds : ∀ (l : List (Array Nat)) (acc : Array Nat), (l.foldl (· ++ ·) acc).toList = acc.toList ++ (l.map Array.toList).flatten
  | [], acc => by simp
  | x :: l, acc => by
    rw [List.foldl_cons, folds l (acc ++ x), List.map_cons, List.flatten_cons, Array.toList_append, List.append_assoc]
theorem cs_mul {z : Str} {n : Nat} (h : 2 ≤ n) (hz : z.length ≠ 0) : cs (Txt.mul z (n : Int)) = (List.replicate n (cs z)).flatten := by
  unfold Txt.mul
  rw [if_neg (by omega), if_neg (by
    rw [Bool.or_eq_true, not_or]
    exact ⟨by simp; omega, by simpa using hz⟩)]
  show (((List.replicate (n : Int).toNat z.cps).foldl (· ++ ·) #[]).toList) = _
  rw [folds, Int.toNat_natCast, List.map_replicate]
  simp
/-- the text of the nested record -/
def nestJ (n : Nat) : List Nat := jn [32] ([123] :: ((nest n).W ++ [[125]]))
theorem nestJ_step (n : Nat) : nestJ (n + 1) = [123, 32, 97, 58, 32] ++ nestJ n ++ [32, 125] := by
  have e : (nest (n + 1)).W = [97, 58] :: (([123] :: ((nest n).W ++ [[125]])) ++ []) := rfl
  unfold nestJ
  rw [e, List.append_nil]
  have h := jn_app [32] ([123] :: ((nest n).W ++ [[125]])) [[125]] (by simp) (by simp)
  show [123] ++ [32] ++ jn [32] ([97, 58] :: (([123] :: ((nest n).W ++ [[125]])) ++ [[125]])) = _
  rw [jn_cons [32] [97, 58] (by simp), h]
  show [123] ++ [32] ++ ([97, 58] ++ [32] ++ (jn [32] ([123] :: ((nest n).W ++ [[125]])) ++ [32] ++ [125])) = _
  simp
theorem nestJ_eq : ∀ n, nestJ n = (List.replicate (n + 1) [123, 32, 97, 58, 32]).flatten ++ [49] ++ (List.replicate (n + 1) [32, 125]).flatten
  | 0 => by decide +kernel
  | n + 1 => by
    rw [nestJ_step, nestJ_eq n]
    have e1 : (List.replicate (n + 1 + 1) [123, 32, 97, 58, 32]).flatten = [123, 32, 97, 58, 32] ++ (List.replicate (n + 1) [123, 32, 97, 58, 32]).flatten := by
      rw [List.replicate_succ, List.flatten_cons]
    have e2 : (List.replicate (n + 1 + 1) [32, 125]).flatten = (List.replicate (n + 1) [32, 125]).flatten ++ [32, 125] := by
      rw [List.replicate_succ', List.flatten_append]
      simp
    rw [e1, e2]
    simp [List.append_assoc]
theorem eT_one (x : Stp) : cs (eT [x]) = jn [32] x.W := by
  show cs (Txt.join "; " [x.t]) = _
  rw [cs_join]
  exact x.tW
theorem page_text : (("put main/a 0 #0 " : Str) ++ Txt.mul "{ a: " 40 ++ "1" ++ Txt.mul " }" 40) = eT [pageS] := by
  apply str_ext
  have e : cs (eT [pageS]) = jn [32] pageS.W := eT_one pageS
  rw [e, cs_app, cs_app, cs_app]
  have m1 : cs (Txt.mul "{ a: " 40) = (List.replicate 40 [123, 32, 97, 58, 32]).flatten := cs_mul (z := "{ a: ") (n := 40) (by decide) (by decide)
  have m2 : cs (Txt.mul " }" 40) = (List.replicate 40 [32, 125]).flatten := cs_mul (z := " }") (n := 40) (by decide) (by decide)
  rw [m1, m2]
  have hw : pageS.W = [[112, 117, 116], cs (placeT ("main", [.w "a"])), cs (nT ((0 : Nat) : Int)), cs (sh 0)] ++ ([123] :: ((nest 39).W ++ [[125]])) := rfl
  rw [hw, jn_app _ _ _ (by simp) (by simp)]
  show _ = _ ++ [32] ++ nestJ 39
  rw [nestJ_eq 39]
  have h1 : jn [32] [[112, 117, 116], cs (placeT ("main", [.w "a"])), cs (nT ((0 : Nat) : Int)), cs (sh 0)] ++ [32] = cs ("put main/a 0 #0 " : Str) := by decide +kernel
  rw [h1]
  have h2 : cs ("1" : Str) = [49] := rfl
  rw [h2]
  simp only [List.append_assoc]
theorem mul_len1 : (Txt.mul "{ a: " 40).length = 200 := by
  have m1 : cs (Txt.mul "{ a: " 40) = (List.replicate 40 [123, 32, 97, 58, 32]).flatten := cs_mul (z := "{ a: ") (n := 40) (by decide) (by decide)
  rw [len_cs, m1]
  decide +kernel
theorem mul_len2 : (Txt.mul " }" 40).length = 80 := by
  have m2 : cs (Txt.mul " }" 40) = (List.replicate 40 [32, 125]).flatten := cs_mul (z := " }") (n := 40) (by decide) (by decide)
  rw [len_cs, m2]
  decide +kernel
theorem page_any : ∃ e : List Stp, (("put main/a 0 #0 " : Str) ++ Txt.mul "{ a: " 40 ++ "1" ++ Txt.mul " }" 40) = eT e ∧ e.length ≤ 30 ∧ (∀ x ∈ e, x.ok) ∧ ∀ x ∈ e, x.rd := by
  refine ⟨[pageS], page_text, by show 1 ≤ 30; decide, fun x hx => ?_, fun x hx => ?_⟩
  · rw [List.mem_singleton.mp hx]
    exact page_good.1
  · rw [List.mem_singleton.mp hx]
    exact page_good.2
end M91

set_option Elab.async false
set_option linter.all false
set_option maxRecDepth 100000
set_option maxHeartbeats 8000000
/-! the law -/
namespace M91
open PySem PySem.Spec PyProof.Rows L2 GL TL
section
variable {P : Program} {w : World} {K : PySem.W.Frag} {mg : Str → Option Value} {base : Heap}
def spLaw (K : PySem.W.Frag) : Sp := fun vs H Q _ => ∃ (a : Addr) (ns : List Int), vs = [.ref a] ∧ SqL K H a (ns.map V.int) ∧ ns.length ≤ 63 ∧ ∀ H', Q (.bl true) H'
theorem ok_law {f : Addr} {fd : FuncData} (F : Fun K "law" "law" sLaw f fd) (T : Bl K mg) (d_box : DnG P w K mg base "_law_box" 1 ["_law_script", "_law_k"] (spBox K)) (d_right : DnG P w K mg base "_law_right" 130 ["_law_box_here"] spRight) (d_show_edit : DnG P w K mg base "show_edit" 128 ["edit"] (spShowE K))
    (d_show_plan : DnG P w K mg base "show_plan" 5 ["plan"] (spShowP K)) (d_read_edit : DnG P w K mg base "read_edit" 129 ["text"] (spReadE K)) (d_read_plan : DnG P w K mg base "read_plan" 6 ["text"] (spReadP K)) : FnG P w K mg base CX0 131 f fd ["_law_script"] (spLaw K) := by
  refine okG0 F scD8 (fun vs H Q E h => ?_) (fun cdv A outer s H vs Q E hr hG h => ?_)
  · obtain ⟨a, ns, rfl, _⟩ := h
    rfl
  · obtain ⟨a, ns, rfl, hS, hlen, q⟩ := h
    refine ⟨_, (pss_cons (ps_for PassesOwn.never rfl (pi_range1 (by rfl) T.range (pa_cons (pe_callB (call_max2 rfl) (by rfl) T.max (by decide +kernel) (pa_cons pe_int (pa_cons (pe_callB (call_min2 rfl) (by rfl) T.min (by decide +kernel) (pa_cons pe_int (pa_cons (pe_callB call_len_seq (by rfl) T.len (by decide +kernel) (pa_cons (pv 0) pa_nil)) pa_nil))) pa_nil))) pa_nil)) (pg_name (i := 1) scD8.nd rfl (Or.inl rfl))
        (pss_cons (ps_set (i := 2) scD8.nd rfl (Or.inr rfl) (pe_callG d_box.ok (hr.mono (by omega)) hG (by rfl) d_box.g d_box.kp d_box.b .nil pass0 (pa_cons (pv 0) (pa_cons (pv 1) pa_nil))))
        (pss_one (ps_if (pt_not (pt_val (pe_callB (cr_all rfl) (by rfl) T.all (by decide +kernel) (pa_cons (pe_lc (own := [("_law_turn", 4)]) (g := gName 4) (by rfl) scD8.nd (pi_range1 (by rfl) T.range (pa_cons pe_int pa_nil)) (blkOk_by (own := [("_law_turn", 4)]) (N := ["_law_script", "_law_k", "_law_box_here", "_law_page", "_law_turn"]) (sc := defScope sLaw) (by decide +kernel)) (fun _ _ _ _ _ => (pg_name (i := 4) scD8.nd rfl (Or.inl rfl))) (fun _ _ _ _ _ => pts_nil) (fun _ _ _ _ _ => (pe_callG d_right.ok (hr.mono (by omega)) hG (by rfl) d_right.g d_right.kp d_right.b .nil pass0 (pa_cons (pv 2) pa_nil)))) pa_nil))))
          (pss_one (ps_ret pe_bl))
          pss_nil))))
      (pss_cons (ps_set (i := 3) scD8.nd rfl (Or.inl rfl) (pe_op op_add_str (pe_op op_add_str (pe_op op_add_str pe_str (pe_op op_mulS pe_str pe_int)) pe_str) (pe_op op_mulS pe_str pe_int)))
      (pss_cons (ps_if (pt_cmpR op_ne (pe_callG d_show_edit.ok (hr.mono (by omega)) hG (by rfl) d_show_edit.g d_show_edit.kp d_show_edit.b .nil pass0 (pa_cons (pe_callG d_read_edit.ok (hr.mono (by omega)) hG (by rfl) d_read_edit.g d_read_edit.kp d_read_edit.b .nil pass0 (pa_cons (pv 3) pa_nil)) pa_nil)) (pv 3) (nomark _))
        (pss_one (ps_ret pe_bl))
        pss_nil)
      (pss_one (ps_ret (pe_cmpR (op_eqD hr.units) (pe_lst (pa_cons (pe_callG d_read_edit.ok (hr.mono (by omega)) hG (by rfl) d_read_edit.g d_read_edit.kp d_read_edit.b .nil pass0 (pa_cons pe_str pa_nil)) (pa_cons (pe_callG d_read_plan.ok (hr.mono (by omega)) hG (by rfl) d_read_plan.g d_read_plan.kp d_read_plan.b .nil pass0 (pa_cons pe_str pa_nil)) (pa_cons (pe_callG d_show_edit.ok (hr.mono (by omega)) hG (by rfl) d_show_edit.g d_show_edit.kp d_show_edit.b .nil pass0 (pa_cons (pe_tup pa_nil) pa_nil)) (pa_cons (pe_callG d_show_plan.ok (hr.mono (by omega)) hG (by rfl) d_show_plan.g d_show_plan.kp d_show_plan.b .nil pass0 (pa_cons (pe_tup pa_nil) pa_nil)) pa_nil))))) (pe_lst (pa_cons (pe_tup pa_nil) (pa_cons (pe_tup pa_nil) (pa_cons pe_str (pa_cons pe_str pa_nil))))) (nomark _))))))), ?_⟩
    refine ⟨.ref a, rfl, a, _, rfl, .inl hS, 3, _, rfl, 1, _, rfl, ((max 1 (min 3 ns.length) : Nat) : Int), ?_, by omega, by omega, ?_⟩
    · show [V.int (if (if ((ns.map V.int).length : Int) < 3 then ((ns.map V.int).length : Int) else 3) > 1 then (if ((ns.map V.int).length : Int) < 3 then ((ns.map V.int).length : Int) else 3) else 1)] = _
      rw [List.length_map]
      congr 2
      split <;> split <;> omega
    · refine for_range (lo := 0) (n := max 1 (min 3 ns.length)) (fun i σ H2 => ∃ y1 y2 y3 y4, σ = [some (.ref a), y1, y2, y3, y4] ∧ Same H H2) ⟨_, _, _, _, rfl, Same.refl _⟩ (fun i σ H2 hi hP => ?_) (fun σ H2 hP => ?_)
      · obtain ⟨y1, y2, y3, y4, rfl, sm⟩ := hP
        rw [Int.zero_add]
        refine ⟨.ref a, rfl, .int (i : Nat), rfl, a, ns, i, rfl, sm.seq hS, by omega, fun p u np hB => ?_⟩
        have sp : Same H2 (upd H2 p u) := same_new np
        generalize upd H2 p u = H3 at hB sp
        refine ⟨20, rfl, by decide, by decide, fun D nD => ?_⟩
        have bD := hB.ne nD
        refine lc_range (lo := 0) (n := 20) (fun j H4 => ∃ bs : List Bool, H4 D = some (.lst (bs.map V.bl)) ∧ bs.length = j ∧ (∀ x ∈ bs, x = true) ∧ Off p H3 H4 ∧ Box H4 p (23201 * j)) ⟨[], upd_same, rfl, (fun x hx => nomatch hx), Off.new nD, hB.new bD⟩ (fun j H4 hj hP => ?_) (fun H4 hP => ?_)
        · obtain ⟨bs, hD, lb, ab, o4, B4⟩ := hP
          refine ⟨rfl, .ref p, rfl, p, _, rfl, B4, by omega, fun H5 o5 B5 => ?_⟩
          refine ⟨_, o5 _ _ bD hD, ?_, bs ++ [true], ?_, by rw [List.length_append, lb]; rfl, fun x hx => ?_, (o4.trans o5).put nD, (B5.new bD).mono (by omega)⟩
          · rw [List.length_map]
            exact Nat.lt_of_lt_of_le (by omega : bs.length < 1001) (big_le (n := 1001) (by decide))
          · rw [upd_same, List.map_append]
            rfl
          · rcases List.mem_append.mp hx with hx | hx
            · exact ab x hx
            · simpa using hx
        · obtain ⟨bs, hD, lb, ab, o4, B4⟩ := hP
          refine ⟨D, bs, rfl, SqL.of hD, ?_⟩
          have : bs.all id = true := List.all_eq_true.mpr fun x hx => ab x hx
          rw [this]
          refine ⟨true, rfl, iteF ?_⟩
          refine ⟨_, _, _, _, rfl, fun x o h => o4 x o (fun z => ?_) (sp _ _ (sm _ _ h))⟩
          rw [z] at h
          rw [sm _ _ h] at np
          cases np
      · obtain ⟨y1, y2, y3, y4, rfl, sm⟩ := hP
        refine ⟨"{ a: ", 40, rfl, rfl, ⟨by decide, by decide +kernel, by decide +kernel⟩, "put main/a 0 #0 ", Txt.mul "{ a: " 40, rfl, rfl, ?_, _, "1", rfl, rfl, ?_, " }", 40, rfl, rfl, ⟨by decide, by decide +kernel, by decide +kernel⟩, _, Txt.mul " }" 40, rfl, rfl, ?_, ?_⟩
        · rw [mul_len1]
          decide
        · rw [len_app, mul_len1]
          decide
        · rw [len_app, len_app, mul_len1, mul_len2]
          decide
        obtain ⟨e, pt, e30, eok, erd⟩ := page_any
        rw [pt]
        refine ⟨.str (eT e), rfl, e, rfl, e30, eok, erd, fun H3 a3 s3 tv3 => ⟨.ref a3, e, rfl, tv3, e30, eok, fun H4 s4 => ⟨.str (eT e), rfl, rfl, _, rfl, iteNS rfl ?_⟩⟩⟩
        refine ⟨[], rfl, by decide, (fun x hx => nomatch hx), (fun x hx => nomatch hx), fun H5 a5 s5 tv5 => ⟨[], rfl, by decide, (fun x hx => nomatch hx), (fun x hx => nomatch hx), List.Pairwise.nil, List.nodup_nil, fun H6 a6 s6 tv6 => ⟨by show 0 ≤ sizeLine; decide, fun t7 nt7 => ?_⟩⟩⟩
        have s7 := same_new (o := .tup []) nt7
        refine ⟨.ref t7, [], rfl, .tup (SqT.of upd_same) .nil, by decide, (fun x hx => nomatch hx), fun H8 s8 => ⟨by show 0 ≤ sizeLine; decide, fun t9 nt9 => ?_⟩⟩
        have s9 := same_new (o := .tup []) nt9
        refine ⟨.ref t9, [], rfl, .tup (SqT.of upd_same) .nil, by decide, (fun x hx => nomatch hx), fun H10 s10 => ⟨by show 4 ≤ sizeLine; decide, fun l11 nl11 => ?_⟩⟩
        have s11 := same_new (o := .lst [.ref a5, .ref a6, .str "-", .str "-"]) nl11
        have D5 := (tv5.tk (tk_same (s6.trans (s7.trans (s8.trans (s9.trans (s10.trans s11))))))).dp
        have D6 := (tv6.tk (tk_same (s7.trans (s8.trans (s9.trans (s10.trans s11)))))).dp
        have D11 : Dp K (upd H10 l11 (.lst [.ref a5, .ref a6, .str "-", .str "-"])) (.ref l11) (.list [.tuple [], .tuple [], .str "-", .str "-"]) := .lst (SqL.of upd_same) (.cons D5 (.cons D6 (.cons (.str _) (.cons (.str _) .nil))))
        refine ⟨by show 0 ≤ sizeLine; decide, fun t12 nt12 => ⟨by show 0 ≤ sizeLine; decide, fun t13 nt13 => ⟨by show 4 ≤ sizeLine; decide, fun l14 nl14 => ?_⟩⟩⟩
        have s12 := same_new (o := .tup []) nt12
        have s13 := same_new (o := .tup []) nt13
        have s14 := same_new (o := .lst [.ref t12, .ref t13, .str "-", .str "-"]) nl14
        have L11 : (upd H10 l11 (.lst [.ref a5, .ref a6, .str "-", .str "-"])) l11 = some (.lst [.ref a5, .ref a6, .str "-", .str "-"]) := upd_same
        have sT := s12.trans (s13.trans s14)
        have D5' := (tv5.tk (tk_same (s6.trans (s7.trans (s8.trans (s9.trans (s10.trans (s11.trans sT)))))))).dp
        have D6' := (tv6.tk (tk_same (s7.trans (s8.trans (s9.trans (s10.trans (s11.trans sT))))))).dp
        have T12 := ((TV.tup (K := K) (SqT.of (upd_same (H := upd H10 l11 (.lst [.ref a5, .ref a6, .str "-", .str "-"])) (a := t12) (o := .tup []))) .nil).tk (tk_same (s13.trans s14))).dp
        have T13 := ((TV.tup (K := K) (SqT.of (upd_same (H := upd (upd H10 l11 (.lst [.ref a5, .ref a6, .str "-", .str "-"])) t12 (.tup [])) (a := t13) (o := .tup []))) .nil).tk (tk_same s14)).dp
        refine ⟨.list [.tuple [], .tuple [], .str "-", .str "-"], .list [.tuple [], .tuple [], .str "-", .str "-"], .lst (SqL.of (sT _ _ L11)) (.cons D5' (.cons D6' (.cons (.str _) (.cons (.str _) .nil)))), .lst (SqL.of upd_same) (.cons T12 (.cons T13 (.cons (.str _) (.cons (.str _) .nil)))), by decide +kernel, by decide +kernel, ?_⟩
        have e : PyData.eqv (.list [.tuple [], .tuple [], .str "-", .str "-"]) (.list [.tuple [], .tuple [], .str "-", .str "-"]) = true := by decide +kernel
        rw [e]
        exact q _
end
end M91

set_option Elab.async false
set_option linter.all false
set_option maxRecDepth 100000
set_option maxHeartbeats 4000000
namespace M91
open PySem PySem.Spec PyProof.Rows L2 GL
/-! ### what the top has left -/
theorem all_mk {l : PySem.W.OpenLaw} {w : World} {K : PySem.W.Frag} {h : Heap} {mg : Str → Option Value} {fa C f1 f2 f3 f4 f5 f6 f7 f8 f9 f10 f11 f12 f13 f14 f15 f16 f17 f18 f19 f20 f21 f22 f23 f24 f25 f26 f27 f28 f29 f30 f31 f32 f33 f34 f35 f36 f37 f38 f39 f40 fm1 fm2 fm3 fm4 fm5 fm6 fm7 fm8 fm9 fm10 fm11 fm12 fm13 fm14 : Addr} (X : K.In h) (G : h.Ns mainGlobals mg) (hfa : mg "law" = some (.ref fa))
    {od1 an1 od2 an2 od3 an3 od4 an4 od5 an5 od6 an6 od7 an7 od8 an8 od9 an9 od10 an10 od11 an11 od12 an12 od13 an13 od14 an14 od15 an15 od16 an16 od17 an17 od18 an18 od19 an19 od20 an20 od21 an21 od22 an22 od23 an23 od24 an24 od25 an25 od26 an26 od27 an27 od28 an28 od29 an29 od30 an30 od31 an31 od32 an32 od33 an33 od34 an34 od35 an35 od36 an36 od37 an37 od38 an38 od39 an39 od40 an40 odm1 anm1 odm2 anm2 odm3 anm3 odm4 anm4 odm5 anm5 odm6 anm6 odm7 anm7 odm8 anm8 odm9 anm9 odm10 anm10 odm11 anm11 odm12 anm12 odm13 anm13 odm14 anm14 : Option Addr} {sl1 sl2 sl3 sl4 sl5 sl6 sl7 sl8 sl9 sl10 sl11 sl12 sl13 sl14 sl15 sl16 sl17 sl18 sl19 sl20 sl21 sl22 sl23 sl24 sl25 sl26 sl27 sl28 sl29 sl30 sl31 sl32 sl33 sl34 sl35 sl36 sl37 sl38 sl39 sl40 slm1 slm2 slm3 slm4 slm5 slm6 slm7 slm8 slm9 slm10 slm11 slm12 slm13 slm14 : Array (Option Value)}
    {oc1 kV1 dc1 pm1 cd1 ct1 oc2 kV2 dc2 pm2 cd2 ct2 oc3 kV3 dc3 pm3 cd3 ct3 oc4 kV4 dc4 pm4 cd4 ct4 oc5 kV5 dc5 pm5 cd5 ct5 oc6 kV6 dc6 pm6 cd6 ct6 oc7 kV7 dc7 pm7 cd7 ct7 oc8 kV8 dc8 pm8 cd8 ct8 oc9 kV9 dc9 pm9 cd9 ct9 oc10 kV10 dc10 pm10 cd10 ct10 oc11 kV11 dc11 pm11 cd11 ct11 oc12 kV12 dc12 pm12 cd12 ct12 oc13 kV13 dc13 pm13 cd13 ct13 oc14 kV14 dc14 pm14 cd14 ct14 oc15 kV15 dc15 pm15 cd15 ct15 oc16 kV16 dc16 pm16 cd16 ct16 oc17 kV17 dc17 pm17 cd17 ct17 oc18 kV18 dc18 pm18 cd18 ct18 oc19 kV19 dc19 pm19 cd19 ct19 oc20 kV20 dc20 pm20 cd20 ct20 oc21 kV21 dc21 pm21 cd21 ct21 oc22 kV22 dc22 pm22 cd22 ct22 oc23 kV23 dc23 pm23 cd23 ct23 oc24 kV24 dc24 pm24 cd24 ct24 oc25 kV25 dc25 pm25 cd25 ct25 oc26 kV26 dc26 pm26 cd26 ct26 oc27 kV27 dc27 pm27 cd27 ct27 oc28 kV28 dc28 pm28 cd28 ct28 oc29 kV29 dc29 pm29 cd29 ct29 oc30 kV30 dc30 pm30 cd30 ct30 oc31 kV31 dc31 pm31 cd31 ct31 oc32 kV32 dc32 pm32 cd32 ct32 oc33 kV33 dc33 pm33 cd33 ct33 oc34 kV34 dc34 pm34 cd34 ct34 oc35 kV35 dc35 pm35 cd35 ct35 oc36 kV36 dc36 pm36 cd36 ct36 oc37 kV37 dc37 pm37 cd37 ct37 oc38 kV38 dc38 pm38 cd38 ct38 oc39 kV39 dc39 pm39 cd39 ct39 oc40 kV40 dc40 pm40 cd40 ct40 ocm1 kVm1 dcm1 pmm1 cdm1 ctm1 ocm2 kVm2 dcm2 pmm2 cdm2 ctm2 ocm3 kVm3 dcm3 pmm3 cdm3 ctm3 ocm4 kVm4 dcm4 pmm4 cdm4 ctm4 ocm5 kVm5 dcm5 pmm5 cdm5 ctm5 ocm6 kVm6 dcm6 pmm6 cdm6 ctm6 ocm7 kVm7 dcm7 pmm7 cdm7 ctm7 ocm8 kVm8 dcm8 pmm8 cdm8 ctm8 ocm9 kVm9 dcm9 pmm9 cdm9 ctm9 ocm10 kVm10 dcm10 pmm10 cdm10 ctm10 ocm11 kVm11 dcm11 pmm11 cdm11 ctm11 ocm12 kVm12 dcm12 pmm12 cdm12 ctm12 ocm13 kVm13 dcm13 pmm13 cdm13 ctm13 ocm14 kVm14 dcm14 pmm14 cdm14 ctm14 : Value}
    (a1 : PySem.W.nsIn K mainGlobals "is_word" = some (some (.ref f1)))
    (l1 : K.lookup f1 = some ⟨oc1, od1, .func (PySem.W.fnOf "is_word" "is_word" (defArgs sIsWord) (defBody sIsWord) (defScope sIsWord) .none kV1 dc1 pm1 an1 cd1 ct1), sl1⟩)
    (c1 : PySem.W.codeIn K cd1 "is_word" = true)
    (k1 : PySem.W.keepIn K (.ref f1) = true)
    (a2 : PySem.W.nsIn K mainGlobals "is_name" = some (some (.ref f2)))
    (l2 : K.lookup f2 = some ⟨oc2, od2, .func (PySem.W.fnOf "is_name" "is_name" (defArgs sIsName) (defBody sIsName) (defScope sIsName) .none kV2 dc2 pm2 an2 cd2 ct2), sl2⟩)
    (c2 : PySem.W.codeIn K cd2 "is_name" = true)
    (k2 : PySem.W.keepIn K (.ref f2) = true)
    (a3 : PySem.W.nsIn K mainGlobals "is_string_part" = some (some (.ref f3)))
    (l3 : K.lookup f3 = some ⟨oc3, od3, .func (PySem.W.fnOf "is_string_part" "is_string_part" (defArgs sIsPart) (defBody sIsPart) (defScope sIsPart) .none kV3 dc3 pm3 an3 cd3 ct3), sl3⟩)
    (c3 : PySem.W.codeIn K cd3 "is_string_part" = true)
    (k3 : PySem.W.keepIn K (.ref f3) = true)
    (a4 : PySem.W.nsIn K mainGlobals "literal_text" = some (some (.ref f4)))
    (l4 : K.lookup f4 = some ⟨oc4, od4, .func (PySem.W.fnOf "literal_text" "literal_text" (defArgs sLitT) (defBody sLitT) (defScope sLitT) .none kV4 dc4 pm4 an4 cd4 ct4), sl4⟩)
    (c4 : PySem.W.codeIn K cd4 "literal_text" = true)
    (k4 : PySem.W.keepIn K (.ref f4) = true)
    (a5 : PySem.W.nsIn K mainGlobals "label_text" = some (some (.ref f5)))
    (l5 : K.lookup f5 = some ⟨oc5, od5, .func (PySem.W.fnOf "label_text" "label_text" (defArgs sLabT) (defBody sLabT) (defScope sLabT) .none kV5 dc5 pm5 an5 cd5 ct5), sl5⟩)
    (c5 : PySem.W.codeIn K cd5 "label_text" = true)
    (k5 : PySem.W.keepIn K (.ref f5) = true)
    (a6 : PySem.W.nsIn K mainGlobals "path_text" = some (some (.ref f6)))
    (l6 : K.lookup f6 = some ⟨oc6, od6, .func (PySem.W.fnOf "path_text" "path_text" (defArgs sPathT) (defBody sPathT) (defScope sPathT) .none kV6 dc6 pm6 an6 cd6 ct6), sl6⟩)
    (c6 : PySem.W.codeIn K cd6 "path_text" = true)
    (k6 : PySem.W.keepIn K (.ref f6) = true)
    (a7 : PySem.W.nsIn K mainGlobals "place_text" = some (some (.ref f7)))
    (l7 : K.lookup f7 = some ⟨oc7, od7, .func (PySem.W.fnOf "place_text" "place_text" (defArgs sPlaceT) (defBody sPlaceT) (defScope sPlaceT) .none kV7 dc7 pm7 an7 cd7 ct7), sl7⟩)
    (c7 : PySem.W.codeIn K cd7 "place_text" = true)
    (k7 : PySem.W.keepIn K (.ref f7) = true)
    (a8 : PySem.W.nsIn K mainGlobals "spot_text" = some (some (.ref f8)))
    (l8 : K.lookup f8 = some ⟨oc8, od8, .func (PySem.W.fnOf "spot_text" "spot_text" (defArgs sSpotT) (defBody sSpotT) (defScope sSpotT) .none kV8 dc8 pm8 an8 cd8 ct8), sl8⟩)
    (c8 : PySem.W.codeIn K cd8 "spot_text" = true)
    (k8 : PySem.W.keepIn K (.ref f8) = true)
    (a9 : PySem.W.nsIn K mainGlobals "worth_text" = some (some (.ref f9)))
    (l9 : K.lookup f9 = some ⟨oc9, od9, .func (PySem.W.fnOf "worth_text" "worth_text" (defArgs sWorthT) (defBody sWorthT) (defScope sWorthT) .none kV9 dc9 pm9 an9 cd9 ct9), sl9⟩)
    (c9 : PySem.W.codeIn K cd9 "worth_text" = true)
    (k9 : PySem.W.keepIn K (.ref f9) = true)
    (a10 : PySem.W.nsIn K mainGlobals "row_text" = some (some (.ref f10)))
    (l10 : K.lookup f10 = some ⟨oc10, od10, .func (PySem.W.fnOf "row_text" "row_text" (defArgs sRowT) (defBody sRowT) (defScope sRowT) .none kV10 dc10 pm10 an10 cd10 ct10), sl10⟩)
    (c10 : PySem.W.codeIn K cd10 "row_text" = true)
    (k10 : PySem.W.keepIn K (.ref f10) = true)
    (a11 : PySem.W.nsIn K mainGlobals "record_text" = some (some (.ref f11)))
    (l11 : K.lookup f11 = some ⟨oc11, od11, .func (PySem.W.fnOf "record_text" "record_text" (defArgs sRecT) (defBody sRecT) (defScope sRecT) .none kV11 dc11 pm11 an11 cd11 ct11), sl11⟩)
    (c11 : PySem.W.codeIn K cd11 "record_text" = true)
    (k11 : PySem.W.keepIn K (.ref f11) = true)
    (a12 : PySem.W.nsIn K mainGlobals "step_text" = some (some (.ref f12)))
    (l12 : K.lookup f12 = some ⟨oc12, od12, .func (PySem.W.fnOf "step_text" "step_text" (defArgs sStepT) (defBody sStepT) (defScope sStepT) .none kV12 dc12 pm12 an12 cd12 ct12), sl12⟩)
    (c12 : PySem.W.codeIn K cd12 "step_text" = true)
    (k12 : PySem.W.keepIn K (.ref f12) = true)
    (a13 : PySem.W.nsIn K mainGlobals "deed_text" = some (some (.ref f13)))
    (l13 : K.lookup f13 = some ⟨oc13, od13, .func (PySem.W.fnOf "deed_text" "deed_text" (defArgs sDeedT) (defBody sDeedT) (defScope sDeedT) .none kV13 dc13 pm13 an13 cd13 ct13), sl13⟩)
    (c13 : PySem.W.codeIn K cd13 "deed_text" = true)
    (k13 : PySem.W.keepIn K (.ref f13) = true)
    (a14 : PySem.W.nsIn K mainGlobals "show_edit" = some (some (.ref f14)))
    (l14 : K.lookup f14 = some ⟨oc14, od14, .func (PySem.W.fnOf "show_edit" "show_edit" (defArgs sShowE) (defBody sShowE) (defScope sShowE) .none kV14 dc14 pm14 an14 cd14 ct14), sl14⟩)
    (c14 : PySem.W.codeIn K cd14 "show_edit" = true)
    (k14 : PySem.W.keepIn K (.ref f14) = true)
    (a15 : PySem.W.nsIn K mainGlobals "show_plan" = some (some (.ref f15)))
    (l15 : K.lookup f15 = some ⟨oc15, od15, .func (PySem.W.fnOf "show_plan" "show_plan" (defArgs sShowP) (defBody sShowP) (defScope sShowP) .none kV15 dc15 pm15 an15 cd15 ct15), sl15⟩)
    (c15 : PySem.W.codeIn K cd15 "show_plan" = true)
    (k15 : PySem.W.keepIn K (.ref f15) = true)
    (a16 : PySem.W.nsIn K mainGlobals "pieces" = some (some (.ref f16)))
    (l16 : K.lookup f16 = some ⟨oc16, od16, .func (PySem.W.fnOf "pieces" "pieces" (defArgs sPieces) (defBody sPieces) (defScope sPieces) .none kV16 dc16 pm16 an16 cd16 ct16), sl16⟩)
    (c16 : PySem.W.codeIn K cd16 "pieces" = true)
    (k16 : PySem.W.keepIn K (.ref f16) = true)
    (a17 : PySem.W.nsIn K mainGlobals "parts_read" = some (some (.ref f17)))
    (l17 : K.lookup f17 = some ⟨oc17, od17, .func (PySem.W.fnOf "parts_read" "parts_read" (defArgs sParts) (defBody sParts) (defScope sParts) .none kV17 dc17 pm17 an17 cd17 ct17), sl17⟩)
    (c17 : PySem.W.codeIn K cd17 "parts_read" = true)
    (k17 : PySem.W.keepIn K (.ref f17) = true)
    (a18 : PySem.W.nsIn K mainGlobals "read_edit" = some (some (.ref f18)))
    (l18 : K.lookup f18 = some ⟨oc18, od18, .func (PySem.W.fnOf "read_edit" "read_edit" (defArgs sReadE) (defBody sReadE) (defScope sReadE) .none kV18 dc18 pm18 an18 cd18 ct18), sl18⟩)
    (c18 : PySem.W.codeIn K cd18 "read_edit" = true)
    (k18 : PySem.W.keepIn K (.ref f18) = true)
    (a19 : PySem.W.nsIn K mainGlobals "deed_key" = some (some (.ref f19)))
    (l19 : K.lookup f19 = some ⟨oc19, od19, .func (PySem.W.fnOf "deed_key" "deed_key" (defArgs sKey) (defBody sKey) (defScope sKey) .none kV19 dc19 pm19 an19 cd19 ct19), sl19⟩)
    (c19 : PySem.W.codeIn K cd19 "deed_key" = true)
    (k19 : PySem.W.keepIn K (.ref f19) = true)
    (a20 : PySem.W.nsIn K mainGlobals "read_plan" = some (some (.ref f20)))
    (l20 : K.lookup f20 = some ⟨oc20, od20, .func (PySem.W.fnOf "read_plan" "read_plan" (defArgs sReadP) (defBody sReadP) (defScope sReadP) .none kV20 dc20 pm20 an20 cd20 ct20), sl20⟩)
    (c20 : PySem.W.codeIn K cd20 "read_plan" = true)
    (k20 : PySem.W.keepIn K (.ref f20) = true)
    (a21 : PySem.W.nsIn K mainGlobals "_law_box" = some (some (.ref f21)))
    (l21 : K.lookup f21 = some ⟨oc21, od21, .func (PySem.W.fnOf "_law_box" "_law_box" (defArgs sBox) (defBody sBox) (defScope sBox) .none kV21 dc21 pm21 an21 cd21 ct21), sl21⟩)
    (c21 : PySem.W.codeIn K cd21 "_law_box" = true)
    (k21 : PySem.W.keepIn K (.ref f21) = true)
    (a22 : PySem.W.nsIn K mainGlobals "_law_take" = some (some (.ref f22)))
    (l22 : K.lookup f22 = some ⟨oc22, od22, .func (PySem.W.fnOf "_law_take" "_law_take" (defArgs sTake) (defBody sTake) (defScope sTake) .none kV22 dc22 pm22 an22 cd22 ct22), sl22⟩)
    (c22 : PySem.W.codeIn K cd22 "_law_take" = true)
    (k22 : PySem.W.keepIn K (.ref f22) = true)
    (a23 : PySem.W.nsIn K mainGlobals "_law_of" = some (some (.ref f23)))
    (l23 : K.lookup f23 = some ⟨oc23, od23, .func (PySem.W.fnOf "_law_of" "_law_of" (defArgs sOf) (defBody sOf) (defScope sOf) .none kV23 dc23 pm23 an23 cd23 ct23), sl23⟩)
    (c23 : PySem.W.codeIn K cd23 "_law_of" = true)
    (k23 : PySem.W.keepIn K (.ref f23) = true)
    (a24 : PySem.W.nsIn K mainGlobals "_law_lit_text" = some (some (.ref f24)))
    (l24 : K.lookup f24 = some ⟨oc24, od24, .func (PySem.W.fnOf "_law_lit_text" "_law_lit_text" (defArgs sLLit) (defBody sLLit) (defScope sLLit) .none kV24 dc24 pm24 an24 cd24 ct24), sl24⟩)
    (c24 : PySem.W.codeIn K cd24 "_law_lit_text" = true)
    (k24 : PySem.W.keepIn K (.ref f24) = true)
    (a25 : PySem.W.nsIn K mainGlobals "_law_path_text" = some (some (.ref f25)))
    (l25 : K.lookup f25 = some ⟨oc25, od25, .func (PySem.W.fnOf "_law_path_text" "_law_path_text" (defArgs sLPath) (defBody sLPath) (defScope sLPath) .none kV25 dc25 pm25 an25 cd25 ct25), sl25⟩)
    (c25 : PySem.W.codeIn K cd25 "_law_path_text" = true)
    (k25 : PySem.W.keepIn K (.ref f25) = true)
    (a26 : PySem.W.nsIn K mainGlobals "_law_place_text" = some (some (.ref f26)))
    (l26 : K.lookup f26 = some ⟨oc26, od26, .func (PySem.W.fnOf "_law_place_text" "_law_place_text" (defArgs sLPlace) (defBody sLPlace) (defScope sLPlace) .none kV26 dc26 pm26 an26 cd26 ct26), sl26⟩)
    (c26 : PySem.W.codeIn K cd26 "_law_place_text" = true)
    (k26 : PySem.W.keepIn K (.ref f26) = true)
    (a27 : PySem.W.nsIn K mainGlobals "_law_worth_text" = some (some (.ref f27)))
    (l27 : K.lookup f27 = some ⟨oc27, od27, .func (PySem.W.fnOf "_law_worth_text" "_law_worth_text" (defArgs sLWorth) (defBody sLWorth) (defScope sLWorth) .none kV27 dc27 pm27 an27 cd27 ct27), sl27⟩)
    (c27 : PySem.W.codeIn K cd27 "_law_worth_text" = true)
    (k27 : PySem.W.keepIn K (.ref f27) = true)
    (a28 : PySem.W.nsIn K mainGlobals "_law_record_text" = some (some (.ref f28)))
    (l28 : K.lookup f28 = some ⟨oc28, od28, .func (PySem.W.fnOf "_law_record_text" "_law_record_text" (defArgs sLRec) (defBody sLRec) (defScope sLRec) .none kV28 dc28 pm28 an28 cd28 ct28), sl28⟩)
    (c28 : PySem.W.codeIn K cd28 "_law_record_text" = true)
    (k28 : PySem.W.keepIn K (.ref f28) = true)
    (a29 : PySem.W.nsIn K mainGlobals "_law_step_text" = some (some (.ref f29)))
    (l29 : K.lookup f29 = some ⟨oc29, od29, .func (PySem.W.fnOf "_law_step_text" "_law_step_text" (defArgs sLStep) (defBody sLStep) (defScope sLStep) .none kV29 dc29 pm29 an29 cd29 ct29), sl29⟩)
    (c29 : PySem.W.codeIn K cd29 "_law_step_text" = true)
    (k29 : PySem.W.keepIn K (.ref f29) = true)
    (a30 : PySem.W.nsIn K mainGlobals "_law_edit_text" = some (some (.ref f30)))
    (l30 : K.lookup f30 = some ⟨oc30, od30, .func (PySem.W.fnOf "_law_edit_text" "_law_edit_text" (defArgs sLEdit) (defBody sLEdit) (defScope sLEdit) .none kV30 dc30 pm30 an30 cd30 ct30), sl30⟩)
    (c30 : PySem.W.codeIn K cd30 "_law_edit_text" = true)
    (k30 : PySem.W.keepIn K (.ref f30) = true)
    (a31 : PySem.W.nsIn K mainGlobals "_law_deed_text" = some (some (.ref f31)))
    (l31 : K.lookup f31 = some ⟨oc31, od31, .func (PySem.W.fnOf "_law_deed_text" "_law_deed_text" (defArgs sLDeed) (defBody sLDeed) (defScope sLDeed) .none kV31 dc31 pm31 an31 cd31 ct31), sl31⟩)
    (c31 : PySem.W.codeIn K cd31 "_law_deed_text" = true)
    (k31 : PySem.W.keepIn K (.ref f31) = true)
    (a32 : PySem.W.nsIn K mainGlobals "_law_plan_text" = some (some (.ref f32)))
    (l32 : K.lookup f32 = some ⟨oc32, od32, .func (PySem.W.fnOf "_law_plan_text" "_law_plan_text" (defArgs sLPlan) (defBody sLPlan) (defScope sLPlan) .none kV32 dc32 pm32 an32 cd32 ct32), sl32⟩)
    (c32 : PySem.W.codeIn K cd32 "_law_plan_text" = true)
    (k32 : PySem.W.keepIn K (.ref f32) = true)
    (a33 : PySem.W.nsIn K mainGlobals "_law_name" = some (some (.ref f33)))
    (l33 : K.lookup f33 = some ⟨oc33, od33, .func (PySem.W.fnOf "_law_name" "_law_name" (defArgs sName) (defBody sName) (defScope sName) .none kV33 dc33 pm33 an33 cd33 ct33), sl33⟩)
    (c33 : PySem.W.codeIn K cd33 "_law_name" = true)
    (k33 : PySem.W.keepIn K (.ref f33) = true)
    (a34 : PySem.W.nsIn K mainGlobals "_law_label_path" = some (some (.ref f34)))
    (l34 : K.lookup f34 = some ⟨oc34, od34, .func (PySem.W.fnOf "_law_label_path" "_law_label_path" (defArgs sLabels) (defBody sLabels) (defScope sLabels) .none kV34 dc34 pm34 an34 cd34 ct34), sl34⟩)
    (c34 : PySem.W.codeIn K cd34 "_law_label_path" = true)
    (k34 : PySem.W.keepIn K (.ref f34) = true)
    (a35 : PySem.W.nsIn K mainGlobals "_law_literal" = some (some (.ref f35)))
    (l35 : K.lookup f35 = some ⟨oc35, od35, .func (PySem.W.fnOf "_law_literal" "_law_literal" (defArgs sLiteral) (defBody sLiteral) (defScope sLiteral) .none kV35 dc35 pm35 an35 cd35 ct35), sl35⟩)
    (c35 : PySem.W.codeIn K cd35 "_law_literal" = true)
    (k35 : PySem.W.keepIn K (.ref f35) = true)
    (a36 : PySem.W.nsIn K mainGlobals "_law_record" = some (some (.ref f36)))
    (l36 : K.lookup f36 = some ⟨oc36, od36, .func (PySem.W.fnOf "_law_record" "_law_record" (defArgs sRecord) (defBody sRecord) (defScope sRecord) .none kV36 dc36 pm36 an36 cd36 ct36), sl36⟩)
    (c36 : PySem.W.codeIn K cd36 "_law_record" = true)
    (k36 : PySem.W.keepIn K (.ref f36) = true)
    (a37 : PySem.W.nsIn K mainGlobals "_law_edit" = some (some (.ref f37)))
    (l37 : K.lookup f37 = some ⟨oc37, od37, .func (PySem.W.fnOf "_law_edit" "_law_edit" (defArgs sEdit) (defBody sEdit) (defScope sEdit) .none kV37 dc37 pm37 an37 cd37 ct37), sl37⟩)
    (c37 : PySem.W.codeIn K cd37 "_law_edit" = true)
    (k37 : PySem.W.keepIn K (.ref f37) = true)
    (a38 : PySem.W.nsIn K mainGlobals "_law_deeds" = some (some (.ref f38)))
    (l38 : K.lookup f38 = some ⟨oc38, od38, .func (PySem.W.fnOf "_law_deeds" "_law_deeds" (defArgs sDeeds) (defBody sDeeds) (defScope sDeeds) .none kV38 dc38 pm38 an38 cd38 ct38), sl38⟩)
    (c38 : PySem.W.codeIn K cd38 "_law_deeds" = true)
    (k38 : PySem.W.keepIn K (.ref f38) = true)
    (a39 : PySem.W.nsIn K mainGlobals "_law_right" = some (some (.ref f39)))
    (l39 : K.lookup f39 = some ⟨oc39, od39, .func (PySem.W.fnOf "_law_right" "_law_right" (defArgs sRight) (defBody sRight) (defScope sRight) .none kV39 dc39 pm39 an39 cd39 ct39), sl39⟩)
    (c39 : PySem.W.codeIn K cd39 "_law_right" = true)
    (k39 : PySem.W.keepIn K (.ref f39) = true)
    (a40 : PySem.W.nsIn K mainGlobals "law" = some (some (.ref f40)))
    (l40 : K.lookup f40 = some ⟨oc40, od40, .func (PySem.W.fnOf "law" "law" (defArgs sLaw) (defBody sLaw) (defScope sLaw) .none kV40 dc40 pm40 an40 cd40 ct40), sl40⟩)
    (c40 : PySem.W.codeIn K cd40 "law" = true)
    (k40 : PySem.W.keepIn K (.ref f40) = true)
    (aC : PySem.W.nsIn K mainGlobals "Reading" = some (some (.ref C)))
    (am1 : PySem.W.findIn K (.ref C) "__init__" = some (some (.ref fm1)))
    (im1 : PySem.W.isFn K (.ref fm1) = true)
    (lm1 : K.lookup fm1 = some ⟨ocm1, odm1, .func (PySem.W.fnOf "__init__" "Reading.__init__" (defArgs rInit) (defBody rInit) (defScope rInit) .none kVm1 dcm1 pmm1 anm1 cdm1 ctm1), slm1⟩)
    (cm1 : PySem.W.codeIn K cdm1 "Reading.__init__" = true)
    (km1 : PySem.W.keepIn K (.ref fm1) = true)
    (am2 : PySem.W.findIn K (.ref C) "next_word" = some (some (.ref fm2)))
    (im2 : PySem.W.isFn K (.ref fm2) = true)
    (lm2 : K.lookup fm2 = some ⟨ocm2, odm2, .func (PySem.W.fnOf "next_word" "Reading.next_word" (defArgs rNext) (defBody rNext) (defScope rNext) .none kVm2 dcm2 pmm2 anm2 cdm2 ctm2), slm2⟩)
    (cm2 : PySem.W.codeIn K cdm2 "Reading.next_word" = true)
    (km2 : PySem.W.keepIn K (.ref fm2) = true)
    (am3 : PySem.W.findIn K (.ref C) "read_number" = some (some (.ref fm3)))
    (im3 : PySem.W.isFn K (.ref fm3) = true)
    (lm3 : K.lookup fm3 = some ⟨ocm3, odm3, .func (PySem.W.fnOf "read_number" "Reading.read_number" (defArgs rNum) (defBody rNum) (defScope rNum) .none kVm3 dcm3 pmm3 anm3 cdm3 ctm3), slm3⟩)
    (cm3 : PySem.W.codeIn K cdm3 "Reading.read_number" = true)
    (km3 : PySem.W.keepIn K (.ref fm3) = true)
    (am4 : PySem.W.findIn K (.ref C) "read_serial" = some (some (.ref fm4)))
    (im4 : PySem.W.isFn K (.ref fm4) = true)
    (lm4 : K.lookup fm4 = some ⟨ocm4, odm4, .func (PySem.W.fnOf "read_serial" "Reading.read_serial" (defArgs rSer) (defBody rSer) (defScope rSer) .none kVm4 dcm4 pmm4 anm4 cdm4 ctm4), slm4⟩)
    (cm4 : PySem.W.codeIn K cdm4 "Reading.read_serial" = true)
    (km4 : PySem.W.keepIn K (.ref fm4) = true)
    (am5 : PySem.W.findIn K (.ref C) "read_literal" = some (some (.ref fm5)))
    (im5 : PySem.W.isFn K (.ref fm5) = true)
    (lm5 : K.lookup fm5 = some ⟨ocm5, odm5, .func (PySem.W.fnOf "read_literal" "Reading.read_literal" (defArgs rLit) (defBody rLit) (defScope rLit) .none kVm5 dcm5 pmm5 anm5 cdm5 ctm5), slm5⟩)
    (cm5 : PySem.W.codeIn K cdm5 "Reading.read_literal" = true)
    (km5 : PySem.W.keepIn K (.ref fm5) = true)
    (am6 : PySem.W.findIn K (.ref C) "read_path" = some (some (.ref fm6)))
    (im6 : PySem.W.isFn K (.ref fm6) = true)
    (lm6 : K.lookup fm6 = some ⟨ocm6, odm6, .func (PySem.W.fnOf "read_path" "Reading.read_path" (defArgs rPath) (defBody rPath) (defScope rPath) .none kVm6 dcm6 pmm6 anm6 cdm6 ctm6), slm6⟩)
    (cm6 : PySem.W.codeIn K cdm6 "Reading.read_path" = true)
    (km6 : PySem.W.keepIn K (.ref fm6) = true)
    (am7 : PySem.W.findIn K (.ref C) "read_place" = some (some (.ref fm7)))
    (im7 : PySem.W.isFn K (.ref fm7) = true)
    (lm7 : K.lookup fm7 = some ⟨ocm7, odm7, .func (PySem.W.fnOf "read_place" "Reading.read_place" (defArgs rPlace) (defBody rPlace) (defScope rPlace) .none kVm7 dcm7 pmm7 anm7 cdm7 ctm7), slm7⟩)
    (cm7 : PySem.W.codeIn K cdm7 "Reading.read_place" = true)
    (km7 : PySem.W.keepIn K (.ref fm7) = true)
    (am8 : PySem.W.findIn K (.ref C) "read_spot" = some (some (.ref fm8)))
    (im8 : PySem.W.isFn K (.ref fm8) = true)
    (lm8 : K.lookup fm8 = some ⟨ocm8, odm8, .func (PySem.W.fnOf "read_spot" "Reading.read_spot" (defArgs rSpot) (defBody rSpot) (defScope rSpot) .none kVm8 dcm8 pmm8 anm8 cdm8 ctm8), slm8⟩)
    (cm8 : PySem.W.codeIn K cdm8 "Reading.read_spot" = true)
    (km8 : PySem.W.keepIn K (.ref fm8) = true)
    (am9 : PySem.W.findIn K (.ref C) "read_worth" = some (some (.ref fm9)))
    (im9 : PySem.W.isFn K (.ref fm9) = true)
    (lm9 : K.lookup fm9 = some ⟨ocm9, odm9, .func (PySem.W.fnOf "read_worth" "Reading.read_worth" (defArgs rWorth) (defBody rWorth) (defScope rWorth) .none kVm9 dcm9 pmm9 anm9 cdm9 ctm9), slm9⟩)
    (cm9 : PySem.W.codeIn K cdm9 "Reading.read_worth" = true)
    (km9 : PySem.W.keepIn K (.ref fm9) = true)
    (am10 : PySem.W.findIn K (.ref C) "read_whole_record" = some (some (.ref fm10)))
    (im10 : PySem.W.isFn K (.ref fm10) = true)
    (lm10 : K.lookup fm10 = some ⟨ocm10, odm10, .func (PySem.W.fnOf "read_whole_record" "Reading.read_whole_record" (defArgs rWhole) (defBody rWhole) (defScope rWhole) .none kVm10 dcm10 pmm10 anm10 cdm10 ctm10), slm10⟩)
    (cm10 : PySem.W.codeIn K cdm10 "Reading.read_whole_record" = true)
    (km10 : PySem.W.keepIn K (.ref fm10) = true)
    (am11 : PySem.W.findIn K (.ref C) "read_record" = some (some (.ref fm11)))
    (im11 : PySem.W.isFn K (.ref fm11) = true)
    (lm11 : K.lookup fm11 = some ⟨ocm11, odm11, .func (PySem.W.fnOf "read_record" "Reading.read_record" (defArgs rRec) (defBody rRec) (defScope rRec) .none kVm11 dcm11 pmm11 anm11 cdm11 ctm11), slm11⟩)
    (cm11 : PySem.W.codeIn K cdm11 "Reading.read_record" = true)
    (km11 : PySem.W.keepIn K (.ref fm11) = true)
    (am12 : PySem.W.findIn K (.ref C) "read_step" = some (some (.ref fm12)))
    (im12 : PySem.W.isFn K (.ref fm12) = true)
    (lm12 : K.lookup fm12 = some ⟨ocm12, odm12, .func (PySem.W.fnOf "read_step" "Reading.read_step" (defArgs rStep) (defBody rStep) (defScope rStep) .none kVm12 dcm12 pmm12 anm12 cdm12 ctm12), slm12⟩)
    (cm12 : PySem.W.codeIn K cdm12 "Reading.read_step" = true)
    (km12 : PySem.W.keepIn K (.ref fm12) = true)
    (am13 : PySem.W.findIn K (.ref C) "read_deed" = some (some (.ref fm13)))
    (im13 : PySem.W.isFn K (.ref fm13) = true)
    (lm13 : K.lookup fm13 = some ⟨ocm13, odm13, .func (PySem.W.fnOf "read_deed" "Reading.read_deed" (defArgs rDeed) (defBody rDeed) (defScope rDeed) .none kVm13 dcm13 pmm13 anm13 cdm13 ctm13), slm13⟩)
    (cm13 : PySem.W.codeIn K cdm13 "Reading.read_deed" = true)
    (km13 : PySem.W.keepIn K (.ref fm13) = true)
    (am14 : PySem.W.findIn K (.ref C) "all_read" = some (some (.ref fm14)))
    (im14 : PySem.W.isFn K (.ref fm14) = true)
    (lm14 : K.lookup fm14 = some ⟨ocm14, odm14, .func (PySem.W.fnOf "all_read" "Reading.all_read" (defArgs rAll) (defBody rAll) (defScope rAll) .none kVm14 dcm14 pmm14 anm14 cdm14 ctm14), slm14⟩)
    (cm14 : PySem.W.codeIn K cdm14 "Reading.all_read" = true)
    (km14 : PySem.W.keepIn K (.ref fm14) = true)
    (pg : PySem.W.plainGet K C Str.empty = true)
    (hd : PySem.W.hasDictIn K C = true)
    (po : PySem.W.plainOver K C = true)
    (sa : PySem.W.findIn K (.ref C) "__setattr__" = some (some (.builtin "object.__setattr__")))
    (mk : PySem.W.makesIn K C = true)
    (kc : PySem.W.keepIn K (.ref C) = true)
    (nH : PySem.W.findIn K (.ref C) "held_text" = some none)
    (nL : PySem.W.findIn K (.ref C) "left_words" = some none)
    (z0 : PySem.W.nsIn K mainGlobals "len" = some none)
    (z1 : PySem.W.nsIn K mainGlobals "abs" = some none)
    (z2 : PySem.W.nsIn K mainGlobals "int" = some none)
    (z3 : PySem.W.nsIn K mainGlobals "max" = some none)
    (z4 : PySem.W.nsIn K mainGlobals "min" = some none)
    (z5 : PySem.W.nsIn K mainGlobals "range" = some none)
    (z6 : PySem.W.nsIn K mainGlobals "list" = some none)
    (z7 : PySem.W.nsIn K mainGlobals "repr" = some none)
    (z8 : PySem.W.nsIn K mainGlobals "all" = some none)
    (z9 : PySem.W.nsIn K mainGlobals "isinstance" = some none)
    (z10 : PySem.W.nsIn K mainGlobals "str" = some none)
    (z11 : PySem.W.nsIn K mainGlobals "tuple" = some none)
    (z12 : PySem.W.nsIn K mainGlobals "sorted" = some none)
    (z13 : PySem.W.nsIn K mainGlobals "set" = some none)
    (z14 : PySem.W.nsIn K mainGlobals "ord" = some none)
    {tk0 tk1 tk2 tk3 tk4 tk5 tk6 tk7 tk8 tk9 tk10 tk11 tk12 tk13 tk14 tk15 tk16 tk17 tk18 tk19 tk20 tk21 tk22 tk23 tk24 : Tok} {aK : Addr} {odK : Option Addr} {nK : Nat} {slK : Array (Option Value)} {x0 x1 x2 x3 x4 x5 x6 x7 x8 x9 x10 x11 x12 : Tok}
    (g0 : PySem.W.nsIn K mainGlobals "LETTERS" = some (some (.str "abcdefghijklmnopqrstuvwxyz" tk0)))
    (g1 : PySem.W.nsIn K mainGlobals "DIGITS" = some (some (.str "0123456789" tk1)))
    (g2 : PySem.W.nsIn K mainGlobals "QUOTE" = some (some (.str "\"" tk2)))
    (g3 : PySem.W.nsIn K mainGlobals "BACKSLASH" = some (some (.str "\\" tk3)))
    (g4 : PySem.W.nsIn K mainGlobals "BLANK" = some (some (.str " " tk4)))
    (g5 : PySem.W.nsIn K mainGlobals "BETWEEN" = some (some (.str "; " tk5)))
    (g6 : PySem.W.nsIn K mainGlobals "NOTHING" = some (some (.str "-" tk6)))
    (g7 : PySem.W.nsIn K mainGlobals "SLASH" = some (some (.str "/" tk7)))
    (g8 : PySem.W.nsIn K mainGlobals "DOT" = some (some (.str "." tk8)))
    (g9 : PySem.W.nsIn K mainGlobals "NUMBER_MARK" = some (some (.str "#" tk9)))
    (g10 : PySem.W.nsIn K mainGlobals "EVERY" = some (some (.str "*" tk10)))
    (g11 : PySem.W.nsIn K mainGlobals "SET" = some (some (.str "set" tk11)))
    (g12 : PySem.W.nsIn K mainGlobals "GONE" = some (some (.str "gone" tk12)))
    (g13 : PySem.W.nsIn K mainGlobals "ORDER" = some (some (.str "order" tk13)))
    (g14 : PySem.W.nsIn K mainGlobals "TAKE" = some (some (.str "take" tk14)))
    (g15 : PySem.W.nsIn K mainGlobals "PUT" = some (some (.str "put" tk15)))
    (g16 : PySem.W.nsIn K mainGlobals "CARRY" = some (some (.str "carry" tk16)))
    (g17 : PySem.W.nsIn K mainGlobals "MOST_LETTERS" = some (some (.int 12 tk17)))
    (g18 : PySem.W.nsIn K mainGlobals "MOST_IN_STRING" = some (some (.int 60 tk18)))
    (g19 : PySem.W.nsIn K mainGlobals "LEAST_CODE" = some (some (.int 32 tk19)))
    (g20 : PySem.W.nsIn K mainGlobals "MOST_CODE" = some (some (.int 126 tk20)))
    (g21 : PySem.W.nsIn K mainGlobals "MOST_DIGITS" = some (some (.int 1000 tk21)))
    (g22 : PySem.W.nsIn K mainGlobals "MOST_DEEP" = some (some (.int 40 tk22)))
    (g23 : PySem.W.nsIn K mainGlobals "PLACE_PARTS" = some (some (.int 2 tk23)))
    (g24 : PySem.W.nsIn K mainGlobals "SPOT_PARTS" = some (some (.int 3 tk24)))
    (gK1 : PySem.W.nsIn K mainGlobals "KEYWORDS" = some (some (.ref aK)))
    (gK2 : K.lookup aK = some ⟨.type "tuple", odK, .seq #[.str "\x69mport" x0, .str "template" x1, .str "list" x2, .str "document" x3, .str "let" x4, .str "new" x5, .str "for" x6, .str "in" x7, .str "where" x8, .str "give" x9, .str "if" x10, .str "then" x11, .str "else" x12] nK, slK⟩) :
    ∃ fd : FuncData, (∀ (s : Shared) (v : Value), BindsTo s fd ⟨[v], []⟩ [("_law_script", v)]) ∧ ∀ base : Heap, K.In base → base.Ns mainGlobals mg → FnG l.prog w K mg base CX0 131 fa fd ["_law_script"] (spLaw K) := by
  have e := hfa.symm.trans (PySem.W.mg_of X G a40)
  cases e
  have F1 := fun_mk (st := sIsWord) l1 c1 k1
  have b1 := F1.binds (ps := ["value"]) fun _ _ _ _ _ _ us hl => match us, hl with | [_], _ => rfl
  have F2 := fun_mk (st := sIsName) l2 c2 k2
  have b2 := F2.binds (ps := ["value"]) fun _ _ _ _ _ _ us hl => match us, hl with | [_], _ => rfl
  have F3 := fun_mk (st := sIsPart) l3 c3 k3
  have b3 := F3.binds (ps := ["text"]) fun _ _ _ _ _ _ us hl => match us, hl with | [_], _ => rfl
  have F4 := fun_mk (st := sLitT) l4 c4 k4
  have b4 := F4.binds (ps := ["value"]) fun _ _ _ _ _ _ us hl => match us, hl with | [_], _ => rfl
  have F5 := fun_mk (st := sLabT) l5 c5 k5
  have b5 := F5.binds (ps := ["label"]) fun _ _ _ _ _ _ us hl => match us, hl with | [_], _ => rfl
  have F6 := fun_mk (st := sPathT) l6 c6 k6
  have b6 := F6.binds (ps := ["path"]) fun _ _ _ _ _ _ us hl => match us, hl with | [_], _ => rfl
  have F7 := fun_mk (st := sPlaceT) l7 c7 k7
  have b7 := F7.binds (ps := ["place"]) fun _ _ _ _ _ _ us hl => match us, hl with | [_], _ => rfl
  have F8 := fun_mk (st := sSpotT) l8 c8 k8
  have b8 := F8.binds (ps := ["spot"]) fun _ _ _ _ _ _ us hl => match us, hl with | [_], _ => rfl
  have F9 := fun_mk (st := sWorthT) l9 c9 k9
  have b9 := F9.binds (ps := ["worth", "has_serials"]) fun _ _ _ _ _ _ us hl => match us, hl with | [_, _], _ => rfl
  have F10 := fun_mk (st := sRowT) l10 c10 k10
  have b10 := F10.binds (ps := ["serial", "record", "has_serials"]) fun _ _ _ _ _ _ us hl => match us, hl with | [_, _, _], _ => rfl
  have F11 := fun_mk (st := sRecT) l11 c11 k11
  have b11 := F11.binds (ps := ["record", "has_serials"]) fun _ _ _ _ _ _ us hl => match us, hl with | [_, _], _ => rfl
  have F12 := fun_mk (st := sStepT) l12 c12 k12
  have b12 := F12.binds (ps := ["step"]) fun _ _ _ _ _ _ us hl => match us, hl with | [_], _ => rfl
  have F13 := fun_mk (st := sDeedT) l13 c13 k13
  have b13 := F13.binds (ps := ["deed"]) fun _ _ _ _ _ _ us hl => match us, hl with | [_], _ => rfl
  have F14 := fun_mk (st := sShowE) l14 c14 k14
  have b14 := F14.binds (ps := ["edit"]) fun _ _ _ _ _ _ us hl => match us, hl with | [_], _ => rfl
  have F15 := fun_mk (st := sShowP) l15 c15 k15
  have b15 := F15.binds (ps := ["plan"]) fun _ _ _ _ _ _ us hl => match us, hl with | [_], _ => rfl
  have F16 := fun_mk (st := sPieces) l16 c16 k16
  have b16 := F16.binds (ps := ["text", "mark"]) fun _ _ _ _ _ _ us hl => match us, hl with | [_, _], _ => rfl
  have F17 := fun_mk (st := sParts) l17 c17 k17
  have b17 := F17.binds (ps := ["text"]) fun _ _ _ _ _ _ us hl => match us, hl with | [_], _ => rfl
  have F18 := fun_mk (st := sReadE) l18 c18 k18
  have b18 := F18.binds (ps := ["text"]) fun _ _ _ _ _ _ us hl => match us, hl with | [_], _ => rfl
  have F19 := fun_mk (st := sKey) l19 c19 k19
  have b19 := F19.binds (ps := ["deed"]) fun _ _ _ _ _ _ us hl => match us, hl with | [_], _ => rfl
  have F20 := fun_mk (st := sReadP) l20 c20 k20
  have b20 := F20.binds (ps := ["text"]) fun _ _ _ _ _ _ us hl => match us, hl with | [_], _ => rfl
  have F21 := fun_mk (st := sBox) l21 c21 k21
  have b21 := F21.binds (ps := ["_law_script", "_law_k"]) fun _ _ _ _ _ _ us hl => match us, hl with | [_, _], _ => rfl
  have F22 := fun_mk (st := sTake) l22 c22 k22
  have b22 := F22.binds (ps := ["_law_box_here", "_law_many"]) fun _ _ _ _ _ _ us hl => match us, hl with | [_, _], _ => rfl
  have F23 := fun_mk (st := sOf) l23 c23 k23
  have b23 := F23.binds (ps := ["_law_box_here", "_law_some"]) fun _ _ _ _ _ _ us hl => match us, hl with | [_, _], _ => rfl
  have F24 := fun_mk (st := sLLit) l24 c24 k24
  have b24 := F24.binds (ps := ["_law_value"]) fun _ _ _ _ _ _ us hl => match us, hl with | [_], _ => rfl
  have F25 := fun_mk (st := sLPath) l25 c25 k25
  have b25 := F25.binds (ps := ["_law_path"]) fun _ _ _ _ _ _ us hl => match us, hl with | [_], _ => rfl
  have F26 := fun_mk (st := sLPlace) l26 c26 k26
  have b26 := F26.binds (ps := ["_law_place"]) fun _ _ _ _ _ _ us hl => match us, hl with | [_], _ => rfl
  have F27 := fun_mk (st := sLWorth) l27 c27 k27
  have b27 := F27.binds (ps := ["_law_value", "_law_has_serials"]) fun _ _ _ _ _ _ us hl => match us, hl with | [_, _], _ => rfl
  have F28 := fun_mk (st := sLRec) l28 c28 k28
  have b28 := F28.binds (ps := ["_law_record_here", "_law_has_serials"]) fun _ _ _ _ _ _ us hl => match us, hl with | [_, _], _ => rfl
  have F29 := fun_mk (st := sLStep) l29 c29 k29
  have b29 := F29.binds (ps := ["_law_step"]) fun _ _ _ _ _ _ us hl => match us, hl with | [_], _ => rfl
  have F30 := fun_mk (st := sLEdit) l30 c30 k30
  have b30 := F30.binds (ps := ["_law_made_of"]) fun _ _ _ _ _ _ us hl => match us, hl with | [_], _ => rfl
  have F31 := fun_mk (st := sLDeed) l31 c31 k31
  have b31 := F31.binds (ps := ["_law_deed"]) fun _ _ _ _ _ _ us hl => match us, hl with | [_], _ => rfl
  have F32 := fun_mk (st := sLPlan) l32 c32 k32
  have b32 := F32.binds (ps := ["_law_made_of"]) fun _ _ _ _ _ _ us hl => match us, hl with | [_], _ => rfl
  have F33 := fun_mk (st := sName) l33 c33 k33
  have b33 := F33.binds (ps := ["_law_box_here"]) fun _ _ _ _ _ _ us hl => match us, hl with | [_], _ => rfl
  have F34 := fun_mk (st := sLabels) l34 c34 k34
  have b34 := F34.binds (ps := ["_law_box_here", "_law_most"]) fun _ _ _ _ _ _ us hl => match us, hl with | [_, _], _ => rfl
  have F35 := fun_mk (st := sLiteral) l35 c35 k35
  have b35 := F35.binds (ps := ["_law_box_here"]) fun _ _ _ _ _ _ us hl => match us, hl with | [_], _ => rfl
  have F36 := fun_mk (st := sRecord) l36 c36 k36
  have b36 := F36.binds (ps := ["_law_box_here", "_law_deep"]) fun _ _ _ _ _ _ us hl => match us, hl with | [_, _], _ => rfl
  have F37 := fun_mk (st := sEdit) l37 c37 k37
  have b37 := F37.binds (ps := ["_law_box_here"]) fun _ _ _ _ _ _ us hl => match us, hl with | [_], _ => rfl
  have F38 := fun_mk (st := sDeeds) l38 c38 k38
  have b38 := F38.binds (ps := ["_law_box_here"]) fun _ _ _ _ _ _ us hl => match us, hl with | [_], _ => rfl
  have F39 := fun_mk (st := sRight) l39 c39 k39
  have b39 := F39.binds (ps := ["_law_box_here"]) fun _ _ _ _ _ _ us hl => match us, hl with | [_], _ => rfl
  have F40 := fun_mk (st := sLaw) l40 c40 k40
  have Fm1 := fun_mk (st := rInit) lm1 cm1 km1
  have bm1 := Fm1.binds (ps := ["self", "whole", "part"]) fun _ _ _ _ _ _ us hl => match us, hl with | [_, _, _], _ => rfl
  have Fm2 := fun_mk (st := rNext) lm2 cm2 km2
  have bm2 := Fm2.binds (ps := ["self"]) fun _ _ _ _ _ _ us hl => match us, hl with | [_], _ => rfl
  have Fm3 := fun_mk (st := rNum) lm3 cm3 km3
  have bm3 := Fm3.binds (ps := ["self", "word"]) fun _ _ _ _ _ _ us hl => match us, hl with | [_, _], _ => rfl
  have Fm4 := fun_mk (st := rSer) lm4 cm4 km4
  have bm4 := Fm4.binds (ps := ["self", "word"]) fun _ _ _ _ _ _ us hl => match us, hl with | [_, _], _ => rfl
  have Fm5 := fun_mk (st := rLit) lm5 cm5 km5
  have bm5 := Fm5.binds (ps := ["self", "word"]) fun _ _ _ _ _ _ us hl => match us, hl with | [_, _], _ => rfl
  have Fm6 := fun_mk (st := rPath) lm6 cm6 km6
  have bm6 := Fm6.binds (ps := ["self", "text", "others"]) fun _ _ _ _ _ _ us hl => match us, hl with | [_, _, _], _ => rfl
  have Fm7 := fun_mk (st := rPlace) lm7 cm7 km7
  have bm7 := Fm7.binds (ps := ["self", "word"]) fun _ _ _ _ _ _ us hl => match us, hl with | [_, _], _ => rfl
  have Fm8 := fun_mk (st := rSpot) lm8 cm8 km8
  have bm8 := Fm8.binds (ps := ["self", "word"]) fun _ _ _ _ _ _ us hl => match us, hl with | [_, _], _ => rfl
  have Fm9 := fun_mk (st := rWorth) lm9 cm9 km9
  have bm9 := Fm9.binds (ps := ["self", "deep"]) fun _ _ _ _ _ _ us hl => match us, hl with | [_, _], _ => rfl
  have Fm10 := fun_mk (st := rWhole) lm10 cm10 km10
  have bm10 := Fm10.binds (ps := ["self", "deep"]) fun _ _ _ _ _ _ us hl => match us, hl with | [_, _], _ => rfl
  have Fm11 := fun_mk (st := rRec) lm11 cm11 km11
  have bm11 := Fm11.binds (ps := ["self", "deep"]) fun _ _ _ _ _ _ us hl => match us, hl with | [_, _], _ => rfl
  have Fm12 := fun_mk (st := rStep) lm12 cm12 km12
  have bm12 := Fm12.binds (ps := ["self"]) fun _ _ _ _ _ _ us hl => match us, hl with | [_], _ => rfl
  have Fm13 := fun_mk (st := rDeed) lm13 cm13 km13
  have bm13 := Fm13.binds (ps := ["self"]) fun _ _ _ _ _ _ us hl => match us, hl with | [_], _ => rfl
  have Fm14 := fun_mk (st := rAll) lm14 cm14 km14
  have bm14 := Fm14.binds (ps := ["self", "found"]) fun _ _ _ _ _ _ us hl => match us, hl with | [_, _], _ => rfl
  have T : Bl K mg := ⟨PySem.W.mg_none_of X G z0, PySem.W.mg_none_of X G z1, PySem.W.mg_none_of X G z2, PySem.W.mg_none_of X G z3, PySem.W.mg_none_of X G z4, PySem.W.mg_none_of X G z5, PySem.W.mg_none_of X G z6, PySem.W.mg_none_of X G z7, PySem.W.mg_none_of X G z8, PySem.W.mg_none_of X G z9, PySem.W.mg_none_of X G z10, PySem.W.mg_none_of X G z11, PySem.W.mg_none_of X G z12, PySem.W.mg_none_of X G z13, PySem.W.mg_none_of X G z14, ⟨_, PySem.W.mg_of X G g0⟩, ⟨_, PySem.W.mg_of X G g1⟩, ⟨_, PySem.W.mg_of X G g2⟩, ⟨_, PySem.W.mg_of X G g3⟩, ⟨_, PySem.W.mg_of X G g4⟩, ⟨_, PySem.W.mg_of X G g5⟩, ⟨_, PySem.W.mg_of X G g6⟩, ⟨_, PySem.W.mg_of X G g7⟩, ⟨_, PySem.W.mg_of X G g8⟩, ⟨_, PySem.W.mg_of X G g9⟩, ⟨_, PySem.W.mg_of X G g10⟩, ⟨_, PySem.W.mg_of X G g11⟩, ⟨_, PySem.W.mg_of X G g12⟩, ⟨_, PySem.W.mg_of X G g13⟩, ⟨_, PySem.W.mg_of X G g14⟩, ⟨_, PySem.W.mg_of X G g15⟩, ⟨_, PySem.W.mg_of X G g16⟩, ⟨_, PySem.W.mg_of X G g17⟩, ⟨_, PySem.W.mg_of X G g18⟩, ⟨_, PySem.W.mg_of X G g19⟩, ⟨_, PySem.W.mg_of X G g20⟩, ⟨_, PySem.W.mg_of X G g21⟩, ⟨_, PySem.W.mg_of X G g22⟩, ⟨_, PySem.W.mg_of X G g23⟩, ⟨_, PySem.W.mg_of X G g24⟩, aK, PySem.W.mg_of X G gK1, fun H => .inr ⟨_, _, _, gK2, rfl, rfl, by show 13 ≤ sizeLine; decide, .cons ⟨_, rfl⟩ (.cons ⟨_, rfl⟩ (.cons ⟨_, rfl⟩ (.cons ⟨_, rfl⟩ (.cons ⟨_, rfl⟩ (.cons ⟨_, rfl⟩ (.cons ⟨_, rfl⟩ (.cons ⟨_, rfl⟩ (.cons ⟨_, rfl⟩ (.cons ⟨_, rfl⟩ (.cons ⟨_, rfl⟩ (.cons ⟨_, rfl⟩ (.cons ⟨_, rfl⟩ (.nil)))))))))))))⟩⟩
  have R : Rg K mg C := ⟨⟨pg, hd, po, sa⟩, nH, nL, PySem.W.mg_of X G aC⟩
  have kb14 : KBinds K (PySem.W.fnOf "show_edit" "show_edit" (defArgs sShowE) (defBody sShowE) (defScope sShowE) .none kV14 dc14 pm14 an14 cd14 ct14) ["edit"] ["edit"] gKv gK := by
    refine ⟨fun s us ws _ hl => ?_, fun r1 r2 => gK_rel r1 r2⟩
    match us, ws, hl with
    | [], [_], _ => exact .of_eq rfl
    | [], [], hl => exact nomatch hl
    | [], _ :: _ :: _, hl => exact nomatch hl
    | _ :: _, _, hl => exact nomatch hl
  have kb15 : KBinds K (PySem.W.fnOf "show_plan" "show_plan" (defArgs sShowP) (defBody sShowP) (defScope sShowP) .none kV15 dc15 pm15 an15 cd15 ct15) ["plan"] ["plan"] gKv gK := by
    refine ⟨fun s us ws _ hl => ?_, fun r1 r2 => gK_rel r1 r2⟩
    match us, ws, hl with
    | [], [_], _ => exact .of_eq rfl
    | [], [], hl => exact nomatch hl
    | [], _ :: _ :: _, hl => exact nomatch hl
    | _ :: _, _, hl => exact nomatch hl
  have kb18 : KBinds K (PySem.W.fnOf "read_edit" "read_edit" (defArgs sReadE) (defBody sReadE) (defScope sReadE) .none kV18 dc18 pm18 an18 cd18 ct18) ["text"] ["text"] gKv gK := by
    refine ⟨fun s us ws _ hl => ?_, fun r1 r2 => gK_rel r1 r2⟩
    match us, ws, hl with
    | [], [_], _ => exact .of_eq rfl
    | [], [], hl => exact nomatch hl
    | [], _ :: _ :: _, hl => exact nomatch hl
    | _ :: _, _, hl => exact nomatch hl
  have kb20 : KBinds K (PySem.W.fnOf "read_plan" "read_plan" (defArgs sReadP) (defBody sReadP) (defScope sReadP) .none kV20 dc20 pm20 an20 cd20 ct20) ["text"] ["text"] gKv gK := by
    refine ⟨fun s us ws _ hl => ?_, fun r1 r2 => gK_rel r1 r2⟩
    match us, ws, hl with
    | [], [_], _ => exact .of_eq rfl
    | [], [], hl => exact nomatch hl
    | [], _ :: _ :: _, hl => exact nomatch hl
    | _ :: _, _, hl => exact nomatch hl
  refine ⟨PySem.W.fnOf "law" "law" (defArgs sLaw) (defBody sLaw) (defScope sLaw) .none kV40 dc40 pm40 an40 cd40 ct40, fun s v => .of_eq rfl, fun base _ _ => ?_⟩
  have dWord : DnO l.prog w K mg base "is_word" 1 _ spWord := ⟨_, _, ok_word F1 T, PySem.W.mg_of X G a1, F1.kp, b1⟩
  have dName : DnO l.prog w K mg base "is_name" 2 _ spNm := ⟨_, _, ok_name F2 T dWord, PySem.W.mg_of X G a2, F2.kp, b2⟩
  have dPart : DnO l.prog w K mg base "is_string_part" 1 _ spPart := ⟨_, _, ok_part F3 T, PySem.W.mg_of X G a3, F3.kp, b3⟩
  have dLit : DnO l.prog w K mg base "literal_text" 1 _ spLitT := ⟨_, _, ok_litT F4 T, PySem.W.mg_of X G a4, F4.kp, b4⟩
  have dLab : DnO l.prog w K mg base "label_text" 1 _ spLabT := ⟨_, _, ok_labT F5 T, PySem.W.mg_of X G a5, F5.kp, b5⟩
  have dPath : DnO l.prog w K mg base "path_text" 2 _ (spPathT K) := ⟨_, _, ok_pathT F6 T dLab, PySem.W.mg_of X G a6, F6.kp, b6⟩
  have dPlace : DnO l.prog w K mg base "place_text" 3 _ (spPlaceT K) := ⟨_, _, ok_placeT F7 T dPath, PySem.W.mg_of X G a7, F7.kp, b7⟩
  have dSpot : DnO l.prog w K mg base "spot_text" 3 _ (spSpotT K) := ⟨_, _, ok_spotT F8 T dPath, PySem.W.mg_of X G a8, F8.kp, b8⟩
  have dRec : DnO l.prog w K mg base "record_text" 126 _ (spRecT K 41) := ⟨_, _, ok_texts F9 F10 F11 T (PySem.W.mg_of X G a9) (PySem.W.mg_of X G a10) (PySem.W.mg_of X G a11) b9 b10 b11 dLit dLab 41, PySem.W.mg_of X G a11, F11.kp, b11⟩
  have dStep : DnO l.prog w K mg base "step_text" 127 _ (spStepT K) := ⟨_, _, ok_stepT F12 T dLit dLab dPlace dRec, PySem.W.mg_of X G a12, F12.kp, b12⟩
  have dDeed : DnO l.prog w K mg base "deed_text" 4 _ (spDeedT K) := ⟨_, _, ok_deedT F13 T dLit dLab dSpot, PySem.W.mg_of X G a13, F13.kp, b13⟩
  have dShowE : DnO l.prog w K mg base "show_edit" 128 _ (spShowE K) := ⟨_, _, ok_showE F14 T dStep, PySem.W.mg_of X G a14, F14.kp, b14⟩
  have dShowP : DnO l.prog w K mg base "show_plan" 5 _ (spShowP K) := ⟨_, _, ok_showP F15 T dDeed, PySem.W.mg_of X G a15, F15.kp, b15⟩
  have lLit : DnO l.prog w K mg base "_law_lit_text" 1 _ spLitT := ⟨_, _, ok_lLit F24 T, PySem.W.mg_of X G a24, F24.kp, b24⟩
  have lPath : DnO l.prog w K mg base "_law_path_text" 2 _ (spPathT K) := ⟨_, _, ok_lPath F25 T, PySem.W.mg_of X G a25, F25.kp, b25⟩
  have lPlace : DnO l.prog w K mg base "_law_place_text" 3 _ (spPlaceT K) := ⟨_, _, ok_lPlace F26 T lPath, PySem.W.mg_of X G a26, F26.kp, b26⟩
  have lRec : DnO l.prog w K mg base "_law_record_text" 85 _ (spRecT K 41) := ⟨_, _, ok_ltexts F27 F28 T (PySem.W.mg_of X G a27) (PySem.W.mg_of X G a28) b27 b28 lLit 41, PySem.W.mg_of X G a28, F28.kp, b28⟩
  have lStep : DnO l.prog w K mg base "_law_step_text" 127 _ (spStepT K) := ⟨_, _, ok_lStep F29 T lLit lPlace lRec, PySem.W.mg_of X G a29, F29.kp, b29⟩
  have lDeed : DnO l.prog w K mg base "_law_deed_text" 4 _ (spDeedT K) := ⟨_, _, ok_lDeed F31 T lLit lPath, PySem.W.mg_of X G a31, F31.kp, b31⟩
  have lEdit : DnO l.prog w K mg base "_law_edit_text" 128 _ (spShowE K) := ⟨_, _, ok_lEdit F30 T lStep, PySem.W.mg_of X G a30, F30.kp, b30⟩
  have lPlan : DnO l.prog w K mg base "_law_plan_text" 5 _ (spShowP K) := ⟨_, _, ok_lPlan F32 T lDeed, PySem.W.mg_of X G a32, F32.kp, b32⟩
  have dPieces : DnO l.prog w K mg base "pieces" 1 _ spPieces := ⟨_, _, ok_pieces F16 T, PySem.W.mg_of X G a16, F16.kp, b16⟩
  have mNext : DnM l.prog w K mg base C "next_word" 1 _ (spNext C) := ⟨_, _, ok_next Fm2 R, ⟨am2, im2, km2⟩, bm2⟩
  have mNum : DnM l.prog w K mg base C "read_number" 1 _ spNum := ⟨_, _, ok_num Fm3 T R, ⟨am3, im3, km3⟩, bm3⟩
  have mSer : DnM l.prog w K mg base C "read_serial" 2 _ (spSer C) := ⟨_, _, ok_ser Fm4 T R mNum, ⟨am4, im4, km4⟩, bm4⟩
  have mLit : DnM l.prog w K mg base C "read_literal" 2 _ (spLit C) := ⟨_, _, ok_lit Fm5 T R mNum dPart, ⟨am5, im5, km5⟩, bm5⟩
  have mPath : DnM l.prog w K mg base C "read_path" 3 _ (spPath K C) := ⟨_, _, ok_path Fm6 T R mSer dName, ⟨am6, im6, km6⟩, bm6⟩
  have mPlace : DnM l.prog w K mg base C "read_place" 4 _ (spPlace K C) := ⟨_, _, ok_place Fm7 T R mPath dName, ⟨am7, im7, km7⟩, bm7⟩
  have mSpot : DnM l.prog w K mg base C "read_spot" 4 _ (spSpot K C) := ⟨_, _, ok_spot Fm8 T R mPath dName, ⟨am8, im8, km8⟩, bm8⟩
  have mRec : DnM l.prog w K mg base C "read_record" 121 _ (spRecR K C 39) := ⟨_, _, ok_recs Fm9 Fm10 Fm11 T R ⟨am9, im9, km9⟩ ⟨am10, im10, km10⟩ ⟨am11, im11, km11⟩ bm9 bm10 bm11 mNext mSer mLit dName 39, ⟨am11, im11, km11⟩, bm11⟩
  have mWhole : DnM l.prog w K mg base C "read_whole_record" 122 _ (spWholeR K C 39) := ⟨_, _, ok_whole (n := 39) Fm10 T R mNext mRec, ⟨am10, im10, km10⟩, bm10⟩
  have mAll : DnM l.prog w K mg base C "all_read" 1 _ (spAll C) := ⟨_, _, ok_all Fm14 R, ⟨am14, im14, km14⟩, bm14⟩
  have mStep : DnM l.prog w K mg base C "read_step" 123 _ (spStepR K C) := ⟨_, _, ok_stepR Fm12 T R mNext mNum mSer mLit mPlace mWhole mAll, ⟨am12, im12, km12⟩, bm12⟩
  have mDeed : DnM l.prog w K mg base C "read_deed" 5 _ (spDeedR K C) := ⟨_, _, ok_deedR Fm13 T R mNext mSer mLit mSpot mAll dName, ⟨am13, im13, km13⟩, bm13⟩
  have mk0 : MkR l.prog w K mg base C := ⟨_, _, ok_init Fm1 T R dPieces, ⟨mk, am1, im1, kc⟩, PySem.W.mg_of X G aC, bm1⟩
  have dParts : DnO l.prog w K mg base "parts_read" 4 _ (spParts C) := ⟨_, _, ok_parts F17 T dPieces mk0, PySem.W.mg_of X G a17, F17.kp, b17⟩
  have dReadE : DnO l.prog w K mg base "read_edit" 129 _ (spReadE K) := ⟨_, _, ok_readE F18 T R dParts mStep dShowE, PySem.W.mg_of X G a18, F18.kp, b18⟩
  have dKey : DnO l.prog w K mg base "deed_key" 1 _ (spKey K) := ⟨_, _, ok_key F19 T, PySem.W.mg_of X G a19, F19.kp, b19⟩
  have dReadP : DnO l.prog w K mg base "read_plan" 6 _ (spReadP K) := ⟨_, _, ok_readP F20 T R dParts mDeed dKey dShowP, PySem.W.mg_of X G a20, F20.kp, b20⟩
  have dT : DnG l.prog w K mg base "_law_take" 1 _ spTake := ⟨_, _, .of (ok_take F22), PySem.W.mg_of X G a22, F22.kp, b22⟩
  have dO : DnG l.prog w K mg base "_law_of" 2 _ spOf := ⟨_, _, ok_of F23 T dT, PySem.W.mg_of X G a23, F23.kp, b23⟩
  have nN : DnG l.prog w K mg base "_law_name" 3 _ spDName := ⟨_, _, ok_dname F33 T dO, PySem.W.mg_of X G a33, F33.kp, b33⟩
  have nLab : DnG l.prog w K mg base "_law_label_path" 4 _ (spDLab K) := ⟨_, _, ok_dlab F34 T dO dT nN, PySem.W.mg_of X G a34, F34.kp, b34⟩
  have nLit : DnG l.prog w K mg base "_law_literal" 3 _ spDLit := ⟨_, _, ok_dlit F35 T dO dT, PySem.W.mg_of X G a35, F35.kp, b35⟩
  have nRec : DnG l.prog w K mg base "_law_record" 7 _ (spDRec K 4) := ⟨_, _, ok_drecs F36 T dT nN nLit (PySem.W.mg_of X G a36) b36 4, PySem.W.mg_of X G a36, F36.kp, b36⟩
  have nEdit : DnG l.prog w K mg base "_law_edit" 8 _ (spDEdit K) := ⟨_, _, ok_dedit F37 T dO dT nN nLit nLab nRec, PySem.W.mg_of X G a37, F37.kp, b37⟩
  have nDeeds : DnG l.prog w K mg base "_law_deeds" 4 _ (spDDeeds K) := ⟨_, _, ok_ddeeds F38 T dO dT nN nLit, PySem.W.mg_of X G a38, F38.kp, b38⟩
  have dR : DnG l.prog w K mg base "_law_right" 130 _ spRight := ⟨_, _, ok_right F39 T nEdit nDeeds ⟨_, _, .of (ok_showE F14 T dStep), PySem.W.mg_of X G a14, F14.kp, b14⟩ kb14 ⟨_, _, .of (ok_showP F15 T dDeed), PySem.W.mg_of X G a15, F15.kp, b15⟩ kb15 lEdit.G lPlan.G ⟨_, _, .of (ok_readE F18 T R dParts mStep dShowE), PySem.W.mg_of X G a18, F18.kp, b18⟩ kb18 ⟨_, _, .of (ok_readP F20 T R dParts mDeed dKey dShowP), PySem.W.mg_of X G a20, F20.kp, b20⟩ kb20, PySem.W.mg_of X G a39, F39.kp, b39⟩
  exact ok_law F40 T ⟨_, _, .of (ok_box F21 T), PySem.W.mg_of X G a21, F21.kp, b21⟩ dR dShowE.G dShowP.G dReadE.G dReadP.G
end M91

set_option Elab.async false
set_option linter.all false
set_option maxRecDepth 100000
open PySem PySem.W PyProof.Rows
set_option maxHeartbeats 0 in
theorem PySem.Challenge.cw_sourceback_k91_edits_and_plans_written_a_holds : PySem.Challenge.rw_sourceback_k91_edits_and_plans_written_a.Holds := by
  w_on; o_law; k_head; (case hw => w_witness2)
  k_fill
  refine GL.walk_ofG (l := PySem.Challenge.rw_sourceback_k91_edits_and_plans_written_a) (n := 63) (k := 131) (x := "_law_script") (CX := fun _ => L2.CX0) (sp := fun w => M91.spLaw _) rfl (by decide) rfl ⟨rfl, by decide, by decide⟩ (fun w h Y => PySem.W.kIn_of Y) ?F (fun _ _ a ns hl _ hS => ⟨a, ns, rfl, hS, hl, fun _ => rfl⟩) (fun _ _ _ _ _ h => h)
  case F =>
    intro w mg fa h KX G hmg
    refine' M91.all_mk KX G hmg ?q_a1 ?q_l1 ?q_c1 ?q_k1 ?q_a2 ?q_l2 ?q_c2 ?q_k2 ?q_a3 ?q_l3 ?q_c3 ?q_k3 ?q_a4 ?q_l4 ?q_c4 ?q_k4 ?q_a5 ?q_l5 ?q_c5 ?q_k5 ?q_a6 ?q_l6 ?q_c6 ?q_k6 ?q_a7 ?q_l7 ?q_c7 ?q_k7 ?q_a8 ?q_l8 ?q_c8 ?q_k8 ?q_a9 ?q_l9 ?q_c9 ?q_k9 ?q_a10 ?q_l10 ?q_c10 ?q_k10 ?q_a11 ?q_l11 ?q_c11 ?q_k11 ?q_a12 ?q_l12 ?q_c12 ?q_k12 ?q_a13 ?q_l13 ?q_c13 ?q_k13 ?q_a14 ?q_l14 ?q_c14 ?q_k14 ?q_a15 ?q_l15 ?q_c15 ?q_k15 ?q_a16 ?q_l16 ?q_c16 ?q_k16 ?q_a17 ?q_l17 ?q_c17 ?q_k17 ?q_a18 ?q_l18 ?q_c18 ?q_k18 ?q_a19 ?q_l19 ?q_c19 ?q_k19 ?q_a20 ?q_l20 ?q_c20 ?q_k20 ?q_a21 ?q_l21 ?q_c21 ?q_k21 ?q_a22 ?q_l22 ?q_c22 ?q_k22 ?q_a23 ?q_l23 ?q_c23 ?q_k23 ?q_a24 ?q_l24 ?q_c24 ?q_k24 ?q_a25 ?q_l25 ?q_c25 ?q_k25 ?q_a26 ?q_l26 ?q_c26 ?q_k26 ?q_a27 ?q_l27 ?q_c27 ?q_k27 ?q_a28 ?q_l28 ?q_c28 ?q_k28 ?q_a29 ?q_l29 ?q_c29 ?q_k29 ?q_a30 ?q_l30 ?q_c30 ?q_k30 ?q_a31 ?q_l31 ?q_c31 ?q_k31 ?q_a32 ?q_l32 ?q_c32 ?q_k32 ?q_a33 ?q_l33 ?q_c33 ?q_k33 ?q_a34 ?q_l34 ?q_c34 ?q_k34 ?q_a35 ?q_l35 ?q_c35 ?q_k35 ?q_a36 ?q_l36 ?q_c36 ?q_k36 ?q_a37 ?q_l37 ?q_c37 ?q_k37 ?q_a38 ?q_l38 ?q_c38 ?q_k38 ?q_a39 ?q_l39 ?q_c39 ?q_k39 ?q_a40 ?q_l40 ?q_c40 ?q_k40 ?q_aC ?q_am1 ?q_im1 ?q_lm1 ?q_cm1 ?q_km1 ?q_am2 ?q_im2 ?q_lm2 ?q_cm2 ?q_km2 ?q_am3 ?q_im3 ?q_lm3 ?q_cm3 ?q_km3 ?q_am4 ?q_im4 ?q_lm4 ?q_cm4 ?q_km4 ?q_am5 ?q_im5 ?q_lm5 ?q_cm5 ?q_km5 ?q_am6 ?q_im6 ?q_lm6 ?q_cm6 ?q_km6 ?q_am7 ?q_im7 ?q_lm7 ?q_cm7 ?q_km7 ?q_am8 ?q_im8 ?q_lm8 ?q_cm8 ?q_km8 ?q_am9 ?q_im9 ?q_lm9 ?q_cm9 ?q_km9 ?q_am10 ?q_im10 ?q_lm10 ?q_cm10 ?q_km10 ?q_am11 ?q_im11 ?q_lm11 ?q_cm11 ?q_km11 ?q_am12 ?q_im12 ?q_lm12 ?q_cm12 ?q_km12 ?q_am13 ?q_im13 ?q_lm13 ?q_cm13 ?q_km13 ?q_am14 ?q_im14 ?q_lm14 ?q_cm14 ?q_km14 ?q_pg ?q_hd ?q_po ?q_sa ?q_mk ?q_kc ?q_nH ?q_nL ?q_z0 ?q_z1 ?q_z2 ?q_z3 ?q_z4 ?q_z5 ?q_z6 ?q_z7 ?q_z8 ?q_z9 ?q_z10 ?q_z11 ?q_z12 ?q_z13 ?q_z14 ?q_g0 ?q_g1 ?q_g2 ?q_g3 ?q_g4 ?q_g5 ?q_g6 ?q_g7 ?q_g8 ?q_g9 ?q_g10 ?q_g11 ?q_g12 ?q_g13 ?q_g14 ?q_g15 ?q_g16 ?q_g17 ?q_g18 ?q_g19 ?q_g20 ?q_g21 ?q_g22 ?q_g23 ?q_g24 ?q_gK1 ?q_gK2
    (case q_a1 => k_is); (case q_l1 => k_is); (case q_c1 => k_is); (case q_k1 => k_is); (case q_a2 => k_is); (case q_l2 => k_is); (case q_c2 => k_is); (case q_k2 => k_is); (case q_a3 => k_is); (case q_l3 => k_is); (case q_c3 => k_is); (case q_k3 => k_is); (case q_a4 => k_is); (case q_l4 => k_is); (case q_c4 => k_is); (case q_k4 => k_is); (case q_a5 => k_is); (case q_l5 => k_is); (case q_c5 => k_is); (case q_k5 => k_is); (case q_a6 => k_is); (case q_l6 => k_is); (case q_c6 => k_is); (case q_k6 => k_is); (case q_a7 => k_is); (case q_l7 => k_is); (case q_c7 => k_is); (case q_k7 => k_is); (case q_a8 => k_is); (case q_l8 => k_is); (case q_c8 => k_is); (case q_k8 => k_is); (case q_a9 => k_is); (case q_l9 => k_is); (case q_c9 => k_is); (case q_k9 => k_is); (case q_a10 => k_is); (case q_l10 => k_is); (case q_c10 => k_is); (case q_k10 => k_is); (case q_a11 => k_is); (case q_l11 => k_is); (case q_c11 => k_is); (case q_k11 => k_is); (case q_a12 => k_is); (case q_l12 => k_is); (case q_c12 => k_is); (case q_k12 => k_is); (case q_a13 => k_is); (case q_l13 => k_is); (case q_c13 => k_is); (case q_k13 => k_is); (case q_a14 => k_is); (case q_l14 => k_is); (case q_c14 => k_is); (case q_k14 => k_is); (case q_a15 => k_is); (case q_l15 => k_is); (case q_c15 => k_is); (case q_k15 => k_is); (case q_a16 => k_is); (case q_l16 => k_is); (case q_c16 => k_is); (case q_k16 => k_is); (case q_a17 => k_is); (case q_l17 => k_is); (case q_c17 => k_is); (case q_k17 => k_is); (case q_a18 => k_is); (case q_l18 => k_is); (case q_c18 => k_is); (case q_k18 => k_is); (case q_a19 => k_is); (case q_l19 => k_is); (case q_c19 => k_is); (case q_k19 => k_is); (case q_a20 => k_is); (case q_l20 => k_is); (case q_c20 => k_is); (case q_k20 => k_is); (case q_a21 => k_is); (case q_l21 => k_is); (case q_c21 => k_is); (case q_k21 => k_is); (case q_a22 => k_is); (case q_l22 => k_is); (case q_c22 => k_is); (case q_k22 => k_is); (case q_a23 => k_is); (case q_l23 => k_is); (case q_c23 => k_is); (case q_k23 => k_is); (case q_a24 => k_is); (case q_l24 => k_is); (case q_c24 => k_is); (case q_k24 => k_is); (case q_a25 => k_is); (case q_l25 => k_is); (case q_c25 => k_is); (case q_k25 => k_is); (case q_a26 => k_is); (case q_l26 => k_is); (case q_c26 => k_is); (case q_k26 => k_is); (case q_a27 => k_is); (case q_l27 => k_is); (case q_c27 => k_is); (case q_k27 => k_is); (case q_a28 => k_is); (case q_l28 => k_is); (case q_c28 => k_is); (case q_k28 => k_is); (case q_a29 => k_is); (case q_l29 => k_is); (case q_c29 => k_is); (case q_k29 => k_is); (case q_a30 => k_is); (case q_l30 => k_is); (case q_c30 => k_is); (case q_k30 => k_is); (case q_a31 => k_is); (case q_l31 => k_is); (case q_c31 => k_is); (case q_k31 => k_is); (case q_a32 => k_is); (case q_l32 => k_is); (case q_c32 => k_is); (case q_k32 => k_is); (case q_a33 => k_is); (case q_l33 => k_is); (case q_c33 => k_is); (case q_k33 => k_is); (case q_a34 => k_is); (case q_l34 => k_is); (case q_c34 => k_is); (case q_k34 => k_is); (case q_a35 => k_is); (case q_l35 => k_is); (case q_c35 => k_is); (case q_k35 => k_is); (case q_a36 => k_is); (case q_l36 => k_is); (case q_c36 => k_is); (case q_k36 => k_is); (case q_a37 => k_is); (case q_l37 => k_is); (case q_c37 => k_is); (case q_k37 => k_is); (case q_a38 => k_is); (case q_l38 => k_is); (case q_c38 => k_is); (case q_k38 => k_is); (case q_a39 => k_is); (case q_l39 => k_is); (case q_c39 => k_is); (case q_k39 => k_is); (case q_a40 => k_is); (case q_l40 => k_is); (case q_c40 => k_is); (case q_k40 => k_is); (case q_aC => k_is); (case q_am1 => k_is); (case q_im1 => k_is); (case q_lm1 => k_is); (case q_cm1 => k_is); (case q_km1 => k_is); (case q_am2 => k_is); (case q_im2 => k_is); (case q_lm2 => k_is); (case q_cm2 => k_is); (case q_km2 => k_is); (case q_am3 => k_is); (case q_im3 => k_is); (case q_lm3 => k_is); (case q_cm3 => k_is); (case q_km3 => k_is); (case q_am4 => k_is); (case q_im4 => k_is); (case q_lm4 => k_is); (case q_cm4 => k_is); (case q_km4 => k_is); (case q_am5 => k_is); (case q_im5 => k_is); (case q_lm5 => k_is); (case q_cm5 => k_is); (case q_km5 => k_is); (case q_am6 => k_is); (case q_im6 => k_is); (case q_lm6 => k_is); (case q_cm6 => k_is); (case q_km6 => k_is); (case q_am7 => k_is); (case q_im7 => k_is); (case q_lm7 => k_is); (case q_cm7 => k_is); (case q_km7 => k_is); (case q_am8 => k_is); (case q_im8 => k_is); (case q_lm8 => k_is); (case q_cm8 => k_is); (case q_km8 => k_is); (case q_am9 => k_is); (case q_im9 => k_is); (case q_lm9 => k_is); (case q_cm9 => k_is); (case q_km9 => k_is); (case q_am10 => k_is); (case q_im10 => k_is); (case q_lm10 => k_is); (case q_cm10 => k_is); (case q_km10 => k_is); (case q_am11 => k_is); (case q_im11 => k_is); (case q_lm11 => k_is); (case q_cm11 => k_is); (case q_km11 => k_is); (case q_am12 => k_is); (case q_im12 => k_is); (case q_lm12 => k_is); (case q_cm12 => k_is); (case q_km12 => k_is); (case q_am13 => k_is); (case q_im13 => k_is); (case q_lm13 => k_is); (case q_cm13 => k_is); (case q_km13 => k_is); (case q_am14 => k_is); (case q_im14 => k_is); (case q_lm14 => k_is); (case q_cm14 => k_is); (case q_km14 => k_is); (case q_pg => k_is); (case q_hd => k_is); (case q_po => k_is); (case q_sa => k_is); (case q_mk => k_is); (case q_kc => k_is); (case q_nH => k_is); (case q_nL => k_is); (case q_z0 => k_is); (case q_z1 => k_is); (case q_z2 => k_is); (case q_z3 => k_is); (case q_z4 => k_is); (case q_z5 => k_is); (case q_z6 => k_is); (case q_z7 => k_is); (case q_z8 => k_is); (case q_z9 => k_is); (case q_z10 => k_is); (case q_z11 => k_is); (case q_z12 => k_is); (case q_z13 => k_is); (case q_z14 => k_is); (case q_g0 => k_is); (case q_g1 => k_is); (case q_g2 => k_is); (case q_g3 => k_is); (case q_g4 => k_is); (case q_g5 => k_is); (case q_g6 => k_is); (case q_g7 => k_is); (case q_g8 => k_is); (case q_g9 => k_is); (case q_g10 => k_is); (case q_g11 => k_is); (case q_g12 => k_is); (case q_g13 => k_is); (case q_g14 => k_is); (case q_g15 => k_is); (case q_g16 => k_is); (case q_g17 => k_is); (case q_g18 => k_is); (case q_g19 => k_is); (case q_g20 => k_is); (case q_g21 => k_is); (case q_g22 => k_is); (case q_g23 => k_is); (case q_g24 => k_is); (case q_gK1 => k_is); (case q_gK2 => k_is)
