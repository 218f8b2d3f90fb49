import PyProof.Rows.All
import Wide.All
import OpenK.AllK
import Wide.FinOn
import HandS.ForMost
import HandS.IsInst
import HandS.Style
import HandS.Flow
import HandS.Defaults
import HandS.Walk
import PyProof.FitsReplace
import PySem.Challenge.RW_blockmoves_k01_names_symbols_values
set_option Elab.async false
set_option linter.all false
set_option maxRecDepth 100000
set_option maxHeartbeats 4000000
/-! My layer over the hand layer: promises of defs that know that no repr is running (guards), repr of data, calls by keywords alone. -/
namespace G
open PySem PySem.Spec PyProof.Rows L2

/-- no repr is running around -/
def Gd (A : Around) : Prop := A.guards = some []
theorem Gd.deeper {A : Around} {env : Env} (h : Gd A) : Gd (A.deeper env) := by
  unfold Gd at h ⊢
  simp [Around.deeper, h]

/-- a def's promise, where no repr is running around the call -/
structure Fg (P : Program) (w : World) (K : PySem.W.Frag) (mg : Str → Option Value) (base : Heap) (CX : CXT)
    (k : Nat) (f : Addr) (fd : FuncData) (ps : List Str) (sp : Sp) : Prop where
  len : ∀ vs H Q E, sp vs H Q E → vs.length = ps.length
  go : ∀ (A : Around) (outer : List Env) (s : Shared) (H : Hp) (args : Args) (us : List Value) (vs : List V)
    (Q : VK) (E : XK), Room k A → Gd A → Env0 P w K mg base A outer s H → BindsTo s fd args (ps.zip us) →
    Vals vs us → sp vs H Q E → codeAny (model P w) A (.call (.ref f) args) (CR CX outer P w H s Q E) s

section
variable {P : Program} {w : World} {K : PySem.W.Frag} {mg : Str → Option Value} {base : Heap} {CX : CXT}
theorem Fg.of {k : Nat} {f : Addr} {fd : FuncData} {ps : List Str} {sp : Sp}
    (F : FnOk P w K mg base CX k f fd ps sp) : Fg P w K mg base CX k f fd ps sp :=
  ⟨F.len, fun A o s H ar us vs Q E hr _ => F.run A o s H ar us vs Q E hr⟩
theorem Fg.mono {j k : Nat} {f : Addr} {fd : FuncData} {ps : List Str} {sp : Sp}
    (F : Fg P w K mg base CX j f fd ps sp) (h : j ≤ k) : Fg P w K mg base CX k f fd ps sp :=
  ⟨F.len, fun A o s H ar us vs Q E hr => F.go A o s H ar us vs Q E (hr.mono h)⟩
/-- a def of the text by its body -/
theorem fg_of {k : Nat} {f : Addr} {fn qual : Str} {params : Arguments} {body : List Stmt} {scope : Scope}
    {dV kV doc pm cdv ct oc : Value} {an od : Option Addr} {osl : Array (Option Value)} {N ps : List Str} {sp : Sp}
    (lk : K.lookup f = some ⟨oc, od, .func (PySem.W.fnOf fn qual params body scope dV kV doc pm an cdv ct), osl⟩)
    (hcd : PySem.W.codeIn K cdv qual = true) (S : FnScope N ps scope)
    (len : ∀ vs H Q E, sp vs H Q E → vs.length = ps.length)
    (hb : ∀ (A : Around) (outer : List Env) (s : Shared) (H : Hp) (vs : List V) (Q : VK) (E : XK),
      Room k (A.deeper (envOfC qual scope s.heap.objs.size f cdv)) → Gd (A.deeper (envOfC qual scope s.heap.objs.size f cdv)) →
      sp vs H Q E → ∃ t, PSs (cxOf CX P w K mg base N qual scope f cdv A outer s H E) body t ∧
        t { nx := fun _ H' => Q .non H', rt := Q } (start N vs) H) :
    Fg P w K mg base CX (k + 1) f (PySem.W.fnOf fn qual params body scope dV kV doc pm an cdv ct) ps sp := by
  constructor
  · exact len
  intro A outer s H args us vs Q E hr hgd e0 hbi r hsp
  have hl := len _ _ _ _ hsp
  have keepB : ∀ b o, base.get? b = some o → s.heap.get? b = some o := fun b o e => (e0.bs b o e).1
  have KX := e0.mod.kin.keeps keepB
  have hkd : ∀ y ∈ ps.zip us, scope.names.lookup y.1 = some .local ∨
      (scope.names.lookup y.1 = some .cell ∧ ((cellsFrom (s.heap.objs.size + 1) scope.names []).lookup y.1).isSome = true) := by
    rintro ⟨n, v⟩ hy
    have hn : n ∈ ps := (List.of_mem_zip hy).1
    cases S.par n hn with
    | inl q => exact Or.inl q
    | inr q => exact Or.inr ⟨q, PySem.W.cellsFrom_some _ _ _ (Or.inl q)⟩
  apply codeAny_call_function hr.depth (KX _ _ lk) rfl S.co S.gen rfl (PySem.W.codeRec_of KX hcd)
  apply hbi
  apply wpAny_newFunctionEnv_cells S.kind hkd
  intro env he s1 x
  subst he
  constructor
  · exact (e0.mod.nolimit.keeps keepB).keeps x.toInCall.keep
  apply codeAny_func
  obtain ⟨t, ht, hq⟩ := hb A outer s H vs Q E (hr.deeper _) hgd.deeper hsp
  have I := inv_start (CX := CX) (E := E) S hr.hd e0 hl r x
  apply wpAny_mono (ht.run [] s1 _ H _ I hq)
  · intro fl s' hs
    have fin : ∀ {σ' : L2.St} {H' : Hp} {v : V} {u : Value}, Inv (cxOf CX P w K mg base N qual scope f cdv A outer s H E) [] σ' H' s' →
        RelV v u → Q v H' → CE outer P w H s Q u s' := fun J rv q => ⟨_, _, J.os, J.bare, J.base, J.hok, rv, q⟩
    cases fl with
    | ret u => obtain ⟨v, σ', H', J, rv, q⟩ := hs; exact fin J rv q
    | next => obtain ⟨σ', H', J, q⟩ := hs; exact fin (v := V.non) J rfl q
    | brk => obtain ⟨_, _, _, q⟩ := hs; exact q.elim
    | cont => obtain ⟨_, _, _, q⟩ := hs; exact q.elim
  · intro e s' hs
    exact hs
/-- .. from which no exception leaves -/
theorem ok0 {x qual : Str} {st : Stmt} {f : Addr} {fd : FuncData} {N ps : List Str} {k : Nat} {sp : Sp}
    (F : Fun K x qual st f fd) (S : FnScope N ps (defScope st)) (len : ∀ vs H Q E, sp vs H Q E → vs.length = ps.length)
    (hb : ∀ (cdv : Value) (A : Around) (outer : List Env) (s : Shared) (H : Hp) (vs : List V) (Q : VK) (E : XK),
      Room k (A.deeper (envOfC qual (defScope st) s.heap.objs.size f cdv)) → Gd (A.deeper (envOfC qual (defScope st) s.heap.objs.size f cdv)) →
      sp vs H Q E → ∃ t, PSs (cxOf CX0 P w K mg base N qual (defScope st) f cdv A outer s H E).nox (defBody st) t ∧
        t { nx := fun _ H' => Q .non H', rt := Q } (start N vs) H) :
    Fg P w K mg base CX0 (k + 1) f fd ps sp := by
  obtain ⟨oc, od, kV, doc, pm, an, cdv, ct, osl, rfl, lk, hcd⟩ := F.ex
  refine fg_of lk hcd S len fun A outer s H vs Q E hr hg hsp => ?_
  obtain ⟨t, h, q⟩ := hb cdv A outer s H vs Q E hr hg hsp
  exact ⟨t, h.nox, q⟩
end

section
variable {X : Cx} {CX : CXT} {k : Nat} {f C : Addr} {fd : FuncData} {ps ks : List Str} {sp : Sp} {dvs : List V} {ds : List Value}
  {E : XK} {x m : Str} {p pos apos : Pos} {e o : Expr} {es : List Expr} {kws : List Keyword} {ta : TE} {t tk : TA}
/-- the callee runs -/
theorem runG {pins : List (Addr × Obj)} {σ : L2.St} {H : Hp} {s : Shared} {Q : VK} {us : List Value}
    {kw : List (Str × Value)} {us' : List Value} {vs' : List V}
    (F : Fg X.prog X.w X.K X.mg X.base CX k f fd ps sp) (hr : Room k X.A) (hgd : Gd X.A) (hx : Passes CX X E)
    (I : Inv X pins σ H s) (hb : us'.length = ps.length → BindsTo s fd ⟨us, kw⟩ (ps.zip us')) (r : Vals vs' us')
    (h : sp vs' H Q E) : wpAny (model X.prog X.w) X.A (call (.ref f) us kw) (EP X pins σ Q) X.xe s := by
  have hl : us'.length = ps.length := r.length.symm.trans (F.len _ _ _ _ h)
  apply wpAny_call
  apply codeAny_mono (F.go X.A X.stack s H ⟨us, kw⟩ us' vs' Q E hr hgd I.env0 (hb hl) r h)
  intro rs s' hq
  cases rs with
  | error e => exact hx pins σ H s e s' I hq
  | ok fl => cases fl with
    | ret u => exact I.after hq
    | next => exact hq.elim
    | brk => exact hq.elim
    | cont => exact hq.elim
/-- f(e, ..) -/
theorem peC (F : Fg X.prog X.w X.K X.mg X.base CX k f fd ps sp) (hr : Room k X.A) (hgd : Gd X.A) (hg : Gl X x)
    (hm : X.mg x = some (.ref f)) (hk : PySem.W.keepIn X.K (.ref f) = true) (hb : Binds X.K fd ps ds) (hd : Vals dvs ds) (hx : Passes CX X E)
    (ha : PA X (e :: es) t) (hdb : (x == ("__debug__" : Str)) = false := by decide)
    (he : starEach (e :: es) X.env = (false, eval e X.env) :: starEach es X.env := by rfl)
    (hpl : (backTo pos (starEach es X.env)).any (·.1) = false := by rfl) :
    PE X (.Call (.Name x p) (e :: es) [] pos) (tCall sp dvs E t) := by
  constructor
  intro pins s σ H Q I h
  apply wpAny_Call_Name_kw
  refine ld_glob I hg hm ?_ hdb
  refine PySem.W.callWith_K (h₀ := X.base) I.ok.mod.kin hk (thn (ha.run pos pins s σ H _ I h) ?_) he hpl
  rintro us s1 ⟨vs, H1, I1, r, q⟩
  exact ⟨I1.kIn, runG F hr hgd hx I1 (fun hl => hb s1 us I1.kIn hl) (r.append hd) q⟩
/-- f() -/
theorem peC0 (F : Fg X.prog X.w X.K X.mg X.base CX k f fd ps sp) (hr : Room k X.A) (hgd : Gd X.A) (hg : Gl X x)
    (hm : X.mg x = some (.ref f)) (hk : PySem.W.keepIn X.K (.ref f) = true) (hb : Binds X.K fd ps ds) (hd : Vals dvs ds) (hx : Passes CX X E)
    (hdb : (x == ("__debug__" : Str)) = false := by decide) : PE X (.Call (.Name x p) [] [] pos) (tCall sp dvs E tNil) := by
  constructor
  intro pins s σ H Q I h
  apply wpAny_Call_Name_kw
  refine ld_glob I hg hm ?_ hdb
  exact PySem.W.callWith_K0 I.kIn hk (runG (us := []) F hr hgd hx I (fun hl => hb s [] I.kIn hl) (Vals.append .nil hd) h)
end
/-- how a call by keywords alone binds -/
def BindsK (K : PySem.W.Frag) (fd : FuncData) (ps ks : List Str) (g : List Value → List Value) (gV : List V → List V) : Prop :=
  (∀ (s : Shared) (ws : List Value), K.In s.heap → (g ws).length = ps.length → BindsTo s fd ⟨[], ks.zip ws⟩ (ps.zip (g ws))) ∧
  ∀ {zs : List V} {ws : List Value}, Vals zs ws → Vals (gV zs) (g ws)
def tCallZ (sp : Sp) (gV : List V → List V) (E : XK) (tk : TA) : TE := fun σ H Q => tk σ H fun zs H2 => sp (gV zs) H2 Q E
section
variable {X : Cx} {CX : CXT} {k : Nat} {f C : Addr} {fd : FuncData} {ps ks : List Str} {sp : Sp} {E : XK} {x : Str} {p pos kp : Pos} {nm : Option Str} {e : Expr} {kws : List Keyword} {tk : TA}
  {g : List Value → List Value} {gV : List V → List V}
/-- f(k = v, ..) -/
theorem peZ (F : Fg X.prog X.w X.K X.mg X.base CX k f fd ps sp) (hr : Room k X.A) (hgd : Gd X.A) (hg : Gl X x)
    (hm : X.mg x = some (.ref f)) (hk : PySem.W.keepIn X.K (.ref f) = true) (hb : BindsK X.K fd ps ks g gV) (hx : Passes CX X E)
    (hkw : PK X kws tk) (hall : (backToKw pos (keywordEach kws X.env)).all (·.1.isSome) = true := by rfl)
    (hks : (backToKw pos (keywordEach kws X.env)).filterMap (·.1) = ks := by rfl)
    (hdb : (x == ("__debug__" : Str)) = false := by decide)
    (hpl : ((backTo pos (starEach [] X.env)).any (·.1) || (backToKw pos (keywordEach kws X.env)).any (·.1.isNone)) = false := by rfl) :
    PE X (.Call (.Name x p) [] kws pos) (tCallZ sp gV E tk) := by
  constructor
  intro pins s σ H Q I h
  apply wpAny_Call_Name_kw
  refine ld_glob I hg hm ?_ hdb
  refine PySem.W.callWith_KW0 (h₀ := X.base) I.ok.mod.kin hk hall ?_ hpl
  refine thn (hkw.run pos pins s σ H _ I h) ?_
  rintro ws s2 ⟨zs, H2, I2, rz, q2⟩
  refine ⟨I2.kIn, ?_⟩
  rw [hks]
  exact runG (us := []) F hr hgd hx I2 (fun hl => hb.1 s2 ws I2.kIn hl) (hb.2 rz) q2
/-- repr of data: a list, a tuple, of None, bools, ints, texts, lists, tuples -/
theorem cr_repr (hgd : Gd X.A) (hu : X.A.units + 64 < cLine) : CallR X (.builtin "repr") (fun xs H Q => ∃ (a : Addr) (d : PyData), xs = [.ref a] ∧ Dp X.K H (.ref a) d ∧
    d.showable = true ∧ d.hasDict = false ∧ d.depth ≤ 60 ∧ d.shown.length ≤ sizeLine ∧ Q (.str d.shown) H) := by
  intro pins s σ H xs us Q I r h
  obtain ⟨a, d, rfl, hd, h1, h2, h3, h4, q⟩ := h
  cases r with
  | cons r0 rr =>
    cases rr
    obtain rfl : _ = Value.ref a := r0
    obtain ⟨as, rd⟩ := Dp.reads I d _ _ hd rfl
    refine repr_of_reads' rd h1 (PyData.noDict_hsm h2) hgd (by omega) (fun _ _ e => e) (fun h' u tk hk => ?_) h4
    exact ⟨.str d.shown, H, I.kept hk, ⟨_, rfl⟩, q⟩
end

/-- the law's end -/
theorem law_end {P : Program} {w : World} {K : PySem.W.Frag} {mg mb : Str → Option Value} {CX : CXT} {k : Nat} {fa a : Addr} {fd : FuncData} {x : Str} {sp : Sp} {s₁ : Shared} {vs : List Value} {ns : List Int}
    (KX : K.In s₁.heap) (hns : s₁.heap.Ns mainGlobals mg) (hb : s₁.heap.Ns builtinsNs mb)
    (hbb : ∀ x : Str, x ≠ "__name__" → mb x = bootBuiltins x) (hlim : s₁.heap.NoLimit) (hg : s₁.gens = #[])
    (ha : s₁.heap.get? a = some { cls := .type "list", data := .seq vs.toArray }) (hi : IntsAre vs ns)
    (hl : ns.length ≤ sizeLine) (hr : Room k callerA)
    (F : ∀ base : Heap, K.In base → base.Ns mainGlobals mg → Fg P w K mg base CX k fa fd [x] sp)
    (hbind : ∀ (s : Shared) (u : Value), BindsTo s fd ⟨[u], []⟩ [(x, u)])
    (hsp : ∀ H : Hp, Only H → SqL K H a (ns.map V.int) → sp [.ref a] H (fun v _ => v = .bl true) fun _ _ _ => False)
    (hCX : ∀ H e s', CX [] H s₁ (fun _ _ _ => False) e s' → False) :
    codeAny (model P w) callerA (.call (.ref fa) ⟨[.ref a], []⟩)
      (fun r s' => r = .ok (.ret (.bool true)) ∧ OldK s₁.heap s'.heap ∧ s'.os = s₁.os ∧ AllBare s'.gens) s₁ := by
  have rv := vals_ints hi
  have lenV := hi.length
  have core : ∀ H : Hp, Only H → SqL K H a (ns.map V.int) → HOk P w H s₁.heap → (∀ b, H b ≠ none → b = a) →
      (H a ≠ none → K.lookup a = none) → codeAny (model P w) callerA (.call (.ref fa) ⟨[.ref a], []⟩)
      (fun r s' => r = .ok (.ret (.bool true)) ∧ OldK s₁.heap s'.heap ∧ s'.os = s₁.os ∧ AllBare s'.gens) s₁ := by
    intro H hO hS hok hA hK
    have eqa : ∀ {b : Addr} {u : HO}, H b = some u → b = a := fun {b u} q => hA b (by rw [q]; simp)
    have noA : ∀ {b : Addr} {o : Obj} {es : Array DictEntry} {ep : Nat}, s₁.heap.get? b = some o → o.data = .dict es ep → H b = none := by
      intro b o es ep e d
      cases q : H b with
      | none => rfl
      | some u =>
        obtain rfl := eqa q
        rw [ha] at e
        cases e
        cases (show Data.seq vs.toArray _ = Data.dict es ep from d)
    have nsK : ∀ {b : Addr} {m : Str → Option Value}, s₁.heap.Ns b m → (hidT s₁.heap H).Ns b m := by
      rintro b m ⟨o, es, ep, e, d, r⟩
      exact ⟨o, es, ep, hidT_get e (noA e d), d, r⟩
    have hKb : K.In (hidT s₁.heap H) := by
      intro b o e
      refine hidT_get (KX b o e) ?_
      cases q : H b with
      | none => rfl
      | some u =>
        obtain rfl := eqa q
        rw [hK (by rw [q]; simp)] at e
        cases e
    have hM : Mod K mg (hidT s₁.heap H) := by
      obtain ⟨mc, h1, h2⟩ := hlim
      exact ⟨hKb, nsK hns, ⟨mb, nsK hb, hbb⟩, ⟨mc, nsK h1, h2⟩⟩
    have e0 : Env0 P w K mg (hidT s₁.heap H) callerA [] s₁ H :=
      ⟨rfl, hM, fun b o e => of_hidT e, Nat.le_of_eq (hidT_size _ _), trivial, fun b hb => (List.not_mem_nil hb).elim, hok, .of_eq hg⟩
    have run := (F _ hKb (nsK hns)).go callerA [] s₁ H ⟨[.ref a], []⟩ [.ref a] [.ref a] _ _ hr rfl e0 (hbind s₁ (.ref a)) (.cons rfl .nil) (hsp H hO hS)
    apply codeAny_mono run
    intro r s' h
    cases r with
    | error e => exact (hCX H e s' h).elim
    | ok fl => cases fl with
      | next => exact h.elim
      | brk => exact h.elim
      | cont => exact h.elim
      | ret u =>
        obtain ⟨v, H', os, bare, un, hok', r', q⟩ := h
        obtain rfl : v = .bl true := q
        obtain rfl : u = Value.bool true := r'
        refine ⟨rfl, OldK.of_keep ?_, os, bare⟩
        intro b o e
        cases q : H b with
        | none => exact un.keep b o e q (fun z => (List.not_mem_nil z).elim) (fun z => (List.not_mem_nil z).elim)
        | some u =>
          rcases hO b with z | ⟨ob, xs, z⟩
          · rw [q] at z
            cases z
          · have z1 := (hok b _ z).1
            rw [e] at z1
            cases z1
            exact (hok' b _ (un.frzs b _ _ z)).1
  cases hk : K.lookup a with
  | some o =>
    have e := KX a o hk
    rw [ha] at e
    cases e
    refine core (fun _ => none) (fun _ => Or.inl rfl) (Or.inr ⟨_, vs.toArray, _, hk, rfl, rfl, rfl, ?_, ?_⟩) (fun b u z => nomatch z) (fun b z => (z rfl).elim) (fun z => (z rfl).elim)
    · rw [List.size_toArray, lenV]
      exact hl
    · simpa using rv
  | none =>
    let o : Obj := { cls := .type "list", data := .seq vs.toArray }
    refine core (fun b => if b = a then some (.frz o (.lst (ns.map V.int))) else none) ?_ (Or.inl (Or.inr ⟨o, if_pos rfl⟩)) ?_ ?_ (fun _ => hk)
    · intro b
      by_cases hb : b = a
      · exact Or.inr ⟨_, _, if_pos hb⟩
      · exact Or.inl (if_neg hb)
    · intro b u z
      by_cases hb : b = a
      · subst hb
        have z' := (if_pos rfl).symm.trans z
        cases z'
        exact ⟨ha, by rw [List.length_map]; exact hl, vs, _, rv, ha⟩
      · cases (if_neg hb).symm.trans z
    · intro b z
      by_cases hb : b = a
      · exact hb
      · exact (z (if_neg hb)).elim
/-- what k_head leaves, from the law's promise -/
theorem walkG {l : PySem.W.OpenLaw} {n k : Nat} {q : Program} {loose : List Str} {XP : (Str → Option Value) → Heap → Prop} {YP : World → Heap → Prop} {d : DefRec} {K : Params → PySem.W.Frag} {CX : World → CXT} {sp : World → Sp} {x : Str}
    (hn : l.most = some n) (hn2 : n ≤ sizeLine) (hdf : d.params.defaults = []) (hr : Room k callerA)
    (hY : ∀ (w : World) (h : Heap), YP w h → (K w.params).In h)
    (F : ∀ (w : World) (mg : Str → Option Value) (fa : Addr) (h : Heap), (K w.params).In h → h.Ns mainGlobals mg → mg d.name = some (.ref fa) →
      ∃ fd : FuncData, (∀ (s : Shared) (u : Value), BindsTo s fd ⟨[u], []⟩ [(x, u)]) ∧
        ∀ base : Heap, (K w.params).In base → base.Ns mainGlobals mg → Fg l.prog w (K w.params) mg base (CX w) k fa fd [x] (sp w))
    (hsp : ∀ (w : World) (H : Hp) (a : Addr) (ns : List Int), ns.length ≤ n → Only H → SqL (K w.params) H a (ns.map V.int) → sp w [.ref a] H (fun v _ => v = .bl true) fun _ _ _ => False)
    (hCX : ∀ (w : World) (H : Hp) (s : Shared) (e : Value) (s' : Shared), CX w [] H s (fun _ _ _ => False) e s' → False) :
    PySem.W.WalkO q loose XP YP l.row.toRowW d [] (fun f vs => PySem.call f vs) := by
  refine Att.attach_call hn hdf ?_
  intro w s₀ s₁ mg mb fa o pm cd doc a vs ns GG Y ho hd hcd hmg hobj hints hlen hg
  have KX := hY w _ Y
  obtain ⟨fd, hb, hF⟩ := F w mg fa _ KX GG.T.g hmg
  exact law_end KX GG.T.g GG.T.b GG.T.builtins GG.T.nolimit hg hobj hints (Nat.le_trans hlen hn2) hr hF hb (fun H hO hS => hsp w H a ns hlen hO hS) (fun H e s' => hCX w H s₁ e s')
end G


namespace G
open PySem PySem.Spec PyProof.Rows L2
/-- a def stands under its name -/
def At (K : PySem.W.Frag) (mg : Str → Option Value) (x : Str) (st : Stmt) : Prop :=
  ∃ (f : Addr) (fd : FuncData), Fun K x x st f fd ∧ mg x = some (.ref f)
/-- .. and keeps a promise -/
structure Has0 (P : Program) (w : World) (K : PySem.W.Frag) (mg : Str → Option Value) (base : Heap) (CX : CXT)
    (x : Str) (st : Stmt) (ps : List Str) (k : Nat) (sp : Sp) (f : Addr) (fd : FuncData) : Prop where
  fn : Fun K x x st f fd
  at_ : mg x = some (.ref f)
  bi : Binds K fd ps []
  ok : Fg P w K mg base CX k f fd ps sp
def Has (P : Program) (w : World) (K : PySem.W.Frag) (mg : Str → Option Value) (base : Heap) (CX : CXT)
    (x : Str) (st : Stmt) (ps : List Str) (k : Nat) (sp : Sp) : Prop := ∃ f fd, Has0 P w K mg base CX x st ps k sp f fd
theorem at_mk {K : PySem.W.Frag} {h : Heap} {mg : Str → Option Value} {x : Str} {st : Stmt} {f : Addr} {oc : Value} {od an : Option Addr} {osl : Array (Option Value)} {kV doc pm cdv ct : Value}
    (X : K.In h) (G : h.Ns mainGlobals mg) (a : PySem.W.nsIn K mainGlobals x = some (some (.ref f)))
    (l : K.lookup f = some ⟨oc, od, .func (PySem.W.fnOf x x (defArgs st) (defBody st) (defScope st) .none kV doc pm an cdv ct), osl⟩)
    (c : PySem.W.codeIn K cdv x = true) (k : PySem.W.keepIn K (.ref f) = true) : At K mg x st :=
  ⟨f, _, fun_mk (st := st) l c k, PySem.W.mg_of X G a⟩
section
variable {P : Program} {w : World} {K : PySem.W.Frag} {mg : Str → Option Value} {base : Heap}
theorem has_mk {x : Str} {st : Stmt} {N ps : List Str} {k : Nat} {sp : Sp} (D : At K mg x st)
    (S : FnScope N ps (defScope st)) (len : ∀ vs H Q E, sp vs H Q E → vs.length = ps.length)
    (hbi : ∀ (kV doc pm : Value) (an : Option Addr) (cdv ct : Value) (us : List Value), us.length = ps.length →
      bindArgs (PySem.W.fnOf x x (defArgs st) (defBody st) (defScope st) .none kV doc pm an cdv ct) ⟨us, []⟩ = pure (ps.zip us))
    (hb : ∀ (f : Addr) (cdv : Value) (A : Around) (outer : List Env) (s : Shared) (H : Hp) (vs : List V) (Q : VK) (E : XK),
      Room k (A.deeper (envOfC x (defScope st) s.heap.objs.size f cdv)) → Gd (A.deeper (envOfC x (defScope st) s.heap.objs.size f cdv)) →
      sp vs H Q E → ∃ t, PSs (cxOf CX0 P w K mg base N x (defScope st) f cdv A outer s H E).nox (defBody st) t ∧
        t { nx := fun _ H' => Q .non H', rt := Q } (start N vs) H) :
    Has P w K mg base CX0 x st ps (k + 1) sp := by
  obtain ⟨f, fd, F, hm⟩ := D
  exact ⟨f, fd, F, hm, F.binds hbi, ok0 F S len fun cdv A outer s H vs Q E hr hg h => hb f cdv A outer s H vs Q E hr hg h⟩
end
section
variable {X : Cx} {k : Nat} {st : Stmt} {ps : List Str} {sp : Sp} {x : Str} {p pos : Pos} {e : Expr} {es : List Expr} {t : TA} {kws : List Keyword} {tk : TA}
theorem peH (h : Has X.prog X.w X.K X.mg X.base CX0 x st ps k sp) (hr : Room k X.A) (hgd : Gd X.A) (hg : Gl X x)
    (ha : PA X (e :: es) t) (hdb : (x == ("__debug__" : Str)) = false := by decide)
    (he : starEach (e :: es) X.env = (false, eval e X.env) :: starEach es X.env := by rfl)
    (hpl : (backTo pos (starEach es X.env)).any (·.1) = false := by rfl) :
    PE X (.Call (.Name x p) (e :: es) [] pos) (tCall sp [] E0 t) := by
  obtain ⟨f, fd, h⟩ := h
  exact peC h.ok hr hgd hg h.at_ h.fn.kp h.bi .nil pass0 ha hdb he hpl
theorem peH0 (h : Has X.prog X.w X.K X.mg X.base CX0 x st ps k sp) (hr : Room k X.A) (hgd : Gd X.A) (hg : Gl X x)
    (hdb : (x == ("__debug__" : Str)) = false := by decide) : PE X (.Call (.Name x p) [] [] pos) (tCall sp [] E0 tNil) := by
  obtain ⟨f, fd, h⟩ := h
  exact peC0 h.ok hr hgd hg h.at_ h.fn.kp h.bi .nil pass0 hdb
/-- by keywords alone: the def's own parameters in their order -/
def HasZ (P : Program) (w : World) (K : PySem.W.Frag) (mg : Str → Option Value) (base : Heap) (CX : CXT)
    (x : Str) (st : Stmt) (ps ks : List Str) (k : Nat) (sp : Sp) (g : List Value → List Value) (gV : List V → List V) : Prop :=
  ∃ f fd, Has0 P w K mg base CX x st ps k sp f fd ∧ BindsK K fd ps ks g gV
theorem peHZ {ks : List Str} {g : List Value → List Value} {gV : List V → List V}
    (h : HasZ X.prog X.w X.K X.mg X.base CX0 x st ps ks k sp g gV) (hr : Room k X.A) (hgd : Gd X.A) (hg : Gl X x)
    (hkw : PK X kws tk) (hall : (backToKw pos (keywordEach kws X.env)).all (·.1.isSome) = true := by rfl)
    (hks : (backToKw pos (keywordEach kws X.env)).filterMap (·.1) = ks := by rfl)
    (hdb : (x == ("__debug__" : Str)) = false := by decide)
    (hpl : ((backTo pos (starEach [] X.env)).any (·.1) || (backToKw pos (keywordEach kws X.env)).any (·.1.isNone)) = false := by rfl) :
    PE X (.Call (.Name x p) [] kws pos) (tCallZ sp gV E0 tk) := by
  obtain ⟨f, fd, h, hb⟩ := h
  exact peZ h.ok hr hgd hg h.at_ h.fn.kp hb pass0 hkw hall hks hdb hpl
theorem Has.z {P : Program} {w : World} {K : PySem.W.Frag} {mg : Str → Option Value} {base : Heap} {CX : CXT} {ks : List Str} {g : List Value → List Value} {gV : List V → List V}
    (h : Has P w K mg base CX x st ps k sp)
    (hb : ∀ (kV doc pm : Value) (an : Option Addr) (cdv ct : Value) (ws : List Value), (g ws).length = ps.length →
      bindArgs (PySem.W.fnOf x x (defArgs st) (defBody st) (defScope st) .none kV doc pm an cdv ct) ⟨[], ks.zip ws⟩ = pure (ps.zip (g ws)))
    (hr : ∀ {zs : List V} {ws : List Value}, Vals zs ws → Vals (gV zs) (g ws)) : HasZ P w K mg base CX x st ps ks k sp g gV := by
  obtain ⟨f, fd, h⟩ := h
  refine ⟨f, fd, h, ?_, hr⟩
  obtain ⟨oc, od, kV, doc, pm, an, cdv, ct, osl, rfl, lk, hcd⟩ := h.fn.ex
  intro s ws _ hl
  exact BindsTo.of_eq (hb kV doc pm an cdv ct ws hl)
end

section
variable {X : Cx} {x : Str} {pos : Pos}
/-- a module's text, int -/
theorem pe_gS {z : Str} (hg : Gl X x) (h : ∃ t, X.mg x = some (.str z t)) (hd : (x == ("__debug__" : Str)) = false := by decide) : PE X (.Name x pos) (tC (.str z)) := by
  obtain ⟨t, h⟩ := h
  exact pe_glob hg h ⟨t, rfl⟩ hd
theorem pe_gI {i : Int} (hg : Gl X x) (h : ∃ t, X.mg x = some (.int i t)) (hd : (x == ("__debug__" : Str)) = false := by decide) : PE X (.Name x pos) (tC (.int i)) := by
  obtain ⟨t, h⟩ := h
  exact pe_glob hg h ⟨t, rfl⟩ hd
end

/-! ### heaps that change at some places alone -/
/-- all that stood outside M stands as it stood -/
def Rx (M : List Addr) (H H' : Hp) : Prop := ∀ a o, a ∉ M → H a = some o → H' a = some o
theorem Rx.refl {M : List Addr} (H : Hp) : Rx M H H := fun _ _ _ h => h
theorem Rx.trans {M : List Addr} {H H1 H2 : Hp} (a : Rx M H H1) (b : Rx M H1 H2) : Rx M H H2 := fun x o n h => b x o n (a x o n h)
theorem Rx.mono {M M' : List Addr} {H H1 : Hp} (a : Rx M H H1) (h : ∀ x ∈ M, x ∈ M') : Rx M' H H1 := fun x o n e => a x o (fun z => n (h x z)) e
theorem Rx.new {M : List Addr} {H : Hp} {p : Addr} {o : HO} (h : H p = none) : Rx M H (upd H p o) := fun a u _ e => by
  rw [upd_ne (ne_of_none e h)]
  exact e
theorem Rx.put {M : List Addr} {H : Hp} {p : Addr} {o : HO} (h : p ∈ M) : Rx M H (upd H p o) := fun a u n e => by
  have ne : a ≠ p := fun z => n (by rw [z]; exact h)
  rw [upd_ne ne]
  exact e
/-- something new, changed -/
theorem Rx.own {M : List Addr} {H H1 : Hp} {p : Addr} {o : HO} (r : Rx M H H1) (h : H p = none) : Rx M H (upd H1 p o) := fun a u n e => by
  rw [upd_ne (ne_of_none e h)]
  exact r a u n e
theorem Rx.same {M : List Addr} {H H1 : Hp} (r : Same H H1) : Rx M H H1 := fun a o _ h => r a o h
theorem Rx.toSame {H H1 : Hp} (r : Rx [] H H1) : Same H H1 := fun a o h => r a o List.not_mem_nil h
theorem Rx.sql {M : List Addr} {K : PySem.W.Frag} {H H' : Hp} {a : Addr} {xs : List V} (r : Rx M H H') (n : a ∉ M) (h : SqL K H a xs) : SqL K H' a xs := by
  rcases h with (h | ⟨o, h⟩) | h
  · exact .inl (.inl (r _ _ n h))
  · exact .inl (.inr ⟨o, r _ _ n h⟩)
  · exact .inr h
theorem Rx.sqt {M : List Addr} {K : PySem.W.Frag} {H H' : Hp} {a : Addr} {xs : List V} (r : Rx M H H') (n : a ∉ M) (h : SqT K H a xs) : SqT K H' a xs := by
  rcases h with (h | ⟨o, h⟩) | h
  · exact .inl (.inl (r _ _ n h))
  · exact .inl (.inr ⟨o, r _ _ n h⟩)
  · exact .inr h
theorem Rx.free {M : List Addr} {H H' : Hp} {a : Addr} (r : Rx M H H') (n : a ∉ M) (h : H' a = none) : H a = none := by
  cases q : H a with
  | none => rfl
  | some o => rw [r a o n q] at h; cases h
/-- the drawing list: a state, digits, a count -/
def Dr (p : Addr) (H : Hp) : Prop := ∃ s d c : Int, H p = some (.lst [.int s, .int d, .int c]) ∧ 0 ≤ s ∧ s < 2147483587 ∧ 0 ≤ d
theorem Dr.get {p : Addr} {H H' : Hp} {M : List Addr} (r : Rx M H H') (n : p ∉ M) (h : Dr p H) : Dr p H' := by
  obtain ⟨s, d, c, e, h⟩ := h
  exact ⟨s, d, c, r _ _ n e, h⟩
/-- a roll below n, from 1 on -/
def spRoll : Sp := fun vs H Q _ => ∃ (p : Addr) (n : Int), vs = [.ref p, .int n] ∧ Dr p H ∧ 0 < n ∧ n < 1073741824 ∧
  ∀ (i : Int) (H' : Hp), 0 ≤ i → i < n → Rx [p] H H' → Dr p H' → Q (.int i) H'
end G


namespace G
open PySem PySem.Spec PyProof.Rows L2
/-! ### readings with names -/
abbrev RC := List V → Hp → VK → Prop
def rInt1 : RC := fun xs H Q => (∃ i, xs = [.int i] ∧ Q (.int i) H) ∨ ∃ k, xs = [.bl k] ∧ Q (.int (if k then 1 else 0)) H
def rAbs : RC := fun xs H Q => ∃ i, xs = [.int i] ∧ Q (.int (if i < 0 then -i else i)) H
def rMax2 : RC := fun xs H Q => ∃ i j, xs = [.int i, .int j] ∧ Q (.int (if j > i then j else i)) H
def rMin2 : RC := fun xs H Q => ∃ i j, xs = [.int i, .int j] ∧ Q (.int (if j < i then j else i)) H
def rStrI : RC := fun xs H Q => ∃ i, xs = [.int i] ∧ i.natAbs.log2 < 1920 ∧ Q (.str (toString i)) H
def rLen (K : PySem.W.Frag) : RC := fun xs H Q => ∃ x n, xs = [x] ∧ LenV K x H n ∧ Q (.int n) H
def rTupOf (K : PySem.W.Frag) : RC := fun xs H Q => ∃ p ys, xs = [.ref p] ∧ ((SqL K H p ys ∧ ∀ l, H l = none → Q (.ref l) (upd H l (.tup ys))) ∨ (SqT K H p ys ∧ Q (.ref p) H))
def rLstOf (K : PySem.W.Frag) : RC := fun xs H Q => ∃ p ys, xs = [.ref p] ∧ (SqL K H p ys ∨ SqT K H p ys) ∧ ∀ l, H l = none → Q (.ref l) (upd H l (.lst ys))
def rRepr (K : PySem.W.Frag) : RC := fun xs H Q => ∃ (a : Addr) (d : PyData), xs = [.ref a] ∧ Dp K H (.ref a) d ∧ d.showable = true ∧ d.hasDict = false ∧ d.depth ≤ 60 ∧ d.shown.length ≤ sizeLine ∧ Q (.str d.shown) H
def rSign : R2 := fun x y H Q => ∃ (c : Nat) (z : Str), x = .str ⟨#[c]⟩ ∧ y = .str z ∧ Q (.bl (decide (c ∈ z.cps.toList))) H
def rAddS : R2 := fun x y H Q => ∃ i j, x = .str i ∧ y = .str j ∧ i.length + j.length ≤ sizeLine ∧ Q (.str (i ++ j)) H
def rLtS : R2 := fun x y H Q => ∃ i j : Str, x = .str i ∧ y = .str j ∧ Q (.bl (decide (i.cps.toList < j.cps.toList))) H
section
variable {X : Cx}
theorem c_int1 : CallR X (.type "int") rInt1 := call_int1
theorem c_abs : CallR X (.builtin "abs") rAbs := call_abs
theorem c_max2 (hc : X.calm = true) : CallR X (.builtin "max") rMax2 := call_max2 hc
theorem c_min2 (hc : X.calm = true) : CallR X (.builtin "min") rMin2 := call_min2 hc
theorem c_strI : CallR X (.type "str") rStrI := call_str_int
theorem c_len : CallR X (.builtin "len") (rLen X.K) := call_len
theorem c_tupOf : CallR X (.type "tuple") (rTupOf X.K) := call_tuple_of
theorem c_lstOf : CallR X (.type "list") (rLstOf X.K) := call_list_of
theorem c_repr (hgd : Gd X.A) (hu : X.A.units + 64 < cLine) : CallR X (.builtin "repr") (rRepr X.K) := cr_repr hgd hu
theorem o_sign : OpR X (compareOp .In) rSign := op_in_sign
theorem o_addS : OpR X (binaryOp .Add) rAddS := op_add_str
theorem o_ltS : OpR X (compareOp .Lt) rLtS := op_lt_str
end
/-! ### one step of a reading -/
section
variable {K : PySem.W.Frag} {σ : L2.St} {H : Hp} {Q : VK} {QB : Bool → Hp → Prop} {QA : List V → Hp → Prop} {D : Ends} {t u : TS} {te ta tb tc : TE} {tt uu : TT} {tr tx : TA} {g : TG} {r r' : R2} {rc : RC} {v x y : V} {i j : Int} {n : Nat}
theorem s_seq (h : t { D with nx := u D } σ H) : tSeq t u D σ H := h
theorem s_next (h : D.nx σ H) : tNext D σ H := h
theorem s_asg (h : te σ H fun x H1 => g x σ H1 D.nx) : tAsg te g D σ H := h
theorem s_par {a b : Nat} (h : tr σ H fun vs H1 => ∃ v w, vs = [v, w] ∧ D.nx ((σ.set a (some v)).set b (some w)) H1) : tPar a b tr D σ H := h
theorem s_par2 {a b : Nat} {v w : V} {N : L2.St → Hp → Prop} (h : N ((σ.set a (some v)).set b (some w)) H) : ∃ v' w', [v, w] = [v', w'] ∧ N ((σ.set a (some v')).set b (some w')) H := ⟨v, w, rfl, h⟩
theorem s_ret (h : te σ H D.rt) : tRet te D σ H := h
theorem s_retN (h : D.rt .non H) : tRetN D σ H := h
theorem s_if (h : tt σ H fun b H1 => if b = true then t D σ H1 else u D σ H1) : tIfS tt t u D σ H := h
theorem s_drop (h : te σ H fun _ H1 => D.nx σ H1) : tDrop te D σ H := h
theorem s_gn {P : L2.St → Hp → Prop} (h : P (σ.set n (some v)) H) : gName n v σ H P := h
theorem s_gsub {to ti : TE} {st : TSet} {P : L2.St → Hp → Prop} (h : to σ H fun o H1 => ti σ H1 fun i H2 => st o i v H2 fun H3 => P σ H3) : gSub to ti st v σ H P := h
theorem s_var (e : σ[n]? = some (some v)) (h : Q v H) : tVar n σ H Q := ⟨v, e, h⟩
theorem s_c (h : Q v H) : tC v σ H Q := h
theorem s_op (h : ta σ H fun x H1 => tb σ H1 fun y H2 => r x y H2 Q) : tOp r ta tb σ H Q := h
theorem s_un {ru : V → Hp → VK → Prop} (h : ta σ H fun x H1 => ru x H1 Q) : tUn ru ta σ H Q := h
theorem s_test (h : te σ H fun x H' => ∃ k, x = .bl k ∧ QB k H') : tTest te σ H QB := h
theorem s_tB (h : te σ H fun x H' => ∃ k, x = .bl k ∧ QB k H') : tB te σ H QB := h
theorem s_bl {b : Bool} (h : QB b H) : ∃ k, V.bl b = .bl k ∧ QB k H := ⟨b, rfl, h⟩
theorem s_and (h : tt σ H fun c H1 => if c = true then uu σ H1 QB else QB false H1) : tAnd tt uu σ H QB := h
theorem s_or (h : tt σ H fun c H1 => if c = true then QB true H1 else uu σ H1 QB) : tOr tt uu σ H QB := h
theorem s_not (h : tt σ H fun c H1 => QB (!c) H1) : tNot tt σ H QB := h
theorem s_andV (h : ta σ H fun x H1 => ∃ c, x = .bl c ∧ if c = true then tb σ H1 Q else Q (.bl false) H1) : tAndV ta tb σ H Q := h
theorem s_orV (h : ta σ H fun x H1 => ∃ c, x = .bl c ∧ if c = true then Q (.bl true) H1 else tb σ H1 Q) : tOrV ta tb σ H Q := h
theorem s_notV (h : ta σ H fun x H1 => ∃ c, x = .bl c ∧ Q (.bl (!c)) H1) : tNotV ta σ H Q := h
theorem s_ifE (h : tt σ H fun c H1 => if c = true then ta σ H1 Q else tb σ H1 Q) : tIf tt ta tb σ H Q := h
theorem s_chain (h : ta σ H fun x H1 => tb σ H1 fun y H2 => r x y H2 fun z H3 => ∃ k, z = .bl k ∧ (if k = true then tc σ H3 fun w' H4 => r' y w' H4 Q else Q (.bl false) H3)) : tChain r r' ta tb tc σ H Q := h
theorem s_nil (h : QA [] H) : tNil σ H QA := h
theorem s_cons (h : te σ H fun x H1 => tr σ H1 fun xs H2 => QA (x :: xs) H2) : tCons te tr σ H QA := h
theorem s_cb (h : tr σ H fun vs H1 => rc vs H1 Q) : tCB rc tr σ H Q := h
theorem s_call {sp : Sp} (h : tr σ H fun vs H1 => sp (vs ++ []) H1 Q E0) : tCall sp [] E0 tr σ H Q := h
theorem s_callZ {sp : Sp} {gV : List V → List V} (h : tr σ H fun vs H1 => sp (gV vs) H1 Q E0) : tCallZ sp gV E0 tr σ H Q := h
/-- a new object: the heap behind it by what is known of it -/
theorem s_new {o : HO} {P : Addr → Hp → Prop} (h : ∀ p H', H p = none → Same H H' → H' p = some o → P p H') : ∀ p, H p = none → P p (upd H p o) := fun p hp =>
  h p _ hp (fun a u e => by rw [upd_ne (ne_of_none e hp)]; exact e) upd_same
theorem s_lst (h : tr σ H fun xs H1 => xs.length ≤ sizeLine ∧ ∀ p H', H1 p = none → Same H1 H' → H' p = some (.lst xs) → Q (.ref p) H')
    (mono : ∀ P P' : List V → Hp → Prop, (∀ xs H, P xs H → P' xs H) → tr σ H P → tr σ H P') : tLst tr σ H Q :=
  mono _ _ (fun xs H1 q => ⟨q.1, s_new (P := fun p H' => Q (.ref p) H') q.2⟩) h
/-- a new object for Q -/
def Mk (o : HO) (H : Hp) (Q : VK) : Prop := ∀ p, H p = none → Q (.ref p) (upd H p o)
theorem s_mk {o : HO} (h : ∀ p H', H p = none → Same H H' → H' p = some o → Q (.ref p) H') : Mk o H Q := s_new (P := fun p H' => Q (.ref p) H') h
theorem s_lst' (h : tr σ H fun xs H1 => xs.length ≤ sizeLine ∧ Mk (.lst xs) H1 Q) : tLst tr σ H Q := h
theorem s_tup' (h : tr σ H fun xs H1 => xs.length ≤ sizeLine ∧ Mk (.tup xs) H1 Q) : tTup tr σ H Q := h
theorem s_sz {n : Nat} {B : Prop} (hn : n ≤ sizeLine) (h : B) : n ≤ sizeLine ∧ B := ⟨hn, h⟩
theorem s_I0 {g : Int → Int → V} (h : Q (g i j) H) : rI0 g (.int i) (.int j) H Q := ⟨i, j, rfl, rfl, h⟩
theorem s_I {C : Int → Int → Prop} {g : Int → Int → V} (c : C i j) (h : Q (g i j) H) : rI C g (.int i) (.int j) H Q := ⟨i, j, rfl, rfl, c, h⟩
theorem s_U {g : Int → V} (h : Q (g i) H) : rU g (.int i) H Q := ⟨i, rfl, h⟩
theorem s_eq (e : scal x y = true) (h : Q (.bl (decide (x = y))) H) : rEq x y H Q := ⟨e, h⟩
theorem s_ne (e : scal x y = true) (h : Q (.bl (!decide (x = y))) H) : rNe x y H Q := ⟨e, h⟩
theorem s_int1 (h : Q (.int i) H) : rInt1 [.int i] H Q := .inl ⟨i, rfl, h⟩
theorem s_abs (h : Q (.int (if i < 0 then -i else i)) H) : rAbs [.int i] H Q := ⟨i, rfl, h⟩
theorem s_max2 (h : Q (.int (if j > i then j else i)) H) : rMax2 [.int i, .int j] H Q := ⟨i, j, rfl, h⟩
theorem s_min2 (h : Q (.int (if j < i then j else i)) H) : rMin2 [.int i, .int j] H Q := ⟨i, j, rfl, h⟩
theorem s_strI (c : i.natAbs.log2 < 1920) (h : Q (.str (toString i)) H) : rStrI [.int i] H Q := ⟨i, rfl, c, h⟩
theorem s_lenS {z : Str} (c : z.length ≤ sizeLine) (h : Q (.int z.length) H) : rLen K [.str z] H Q := ⟨_, z.length, rfl, ⟨c, rfl⟩, h⟩
theorem s_lenL {p : Addr} {xs : List V} (c : SqL K H p xs) (h : Q (.int xs.length) H) : rLen K [.ref p] H Q := ⟨_, xs.length, rfl, .inl ⟨xs, c, rfl⟩, h⟩
theorem s_lenT {p : Addr} {xs : List V} (c : SqT K H p xs) (h : Q (.int xs.length) H) : rLen K [.ref p] H Q := ⟨_, xs.length, rfl, .inr ⟨xs, c, rfl⟩, h⟩
theorem s_tupL {p : Addr} {xs : List V} (c : SqL K H p xs) (h : ∀ p H', H p = none → Same H H' → H' p = some (.tup xs) → Q (.ref p) H') : rTupOf K [.ref p] H Q := ⟨p, xs, rfl, .inl ⟨c, s_new (P := fun p H' => Q (.ref p) H') h⟩⟩
theorem s_ixL {p : Addr} {xs : List V} (c : SqL K H p xs) (a : atI xs i = some v) (h : Q v H) : rIxL K (.ref p) (.int i) H Q := ⟨p, xs, i, v, rfl, rfl, c, a, h⟩
theorem s_ixT {p : Addr} {xs : List V} (c : SqT K H p xs) (a : atI xs i = some v) (h : Q v H) : rIxT K (.ref p) (.int i) H Q := ⟨p, xs, i, v, rfl, rfl, c, a, h⟩
theorem s_ixS {z : Str} {c : Nat} (l : z.length ≤ sizeLine) (a : atI z.cps.toList i = some c) (h : Q (.str ⟨#[c]⟩) H) : rIxS (.str z) (.int i) H Q := ⟨z, i, c, rfl, rfl, l, a, h⟩
theorem s_setL {p : Addr} {xs : List V} {k : Nat} {P : Hp → Prop} (e : H p = some (.lst xs)) (a : ixN xs.length i = some k) (h : P (upd H p (.lst (xs.set k v)))) : rSetL (.ref p) (.int i) v H P := ⟨p, xs, i, k, rfl, rfl, e, a, h⟩
theorem s_addS {a b : Str} (c : a.length + b.length ≤ sizeLine) (h : Q (.str (a ++ b)) H) : rAddS (.str a) (.str b) H Q := ⟨a, b, rfl, rfl, c, h⟩
theorem s_ltS {a b : Str} (h : Q (.bl (decide (a.cps.toList < b.cps.toList))) H) : rLtS (.str a) (.str b) H Q := ⟨a, b, rfl, rfl, h⟩
theorem s_sign {c : Nat} {z : Str} (h : Q (.bl (decide (c ∈ z.cps.toList))) H) : rSign (.str ⟨#[c]⟩) (.str z) H Q := ⟨c, z, rfl, rfl, h⟩
theorem s_cat {p q : Addr} {xs ys : List V} (a : H p = some (.lst xs)) (b : H q = some (.lst ys)) (c : xs.length + ys.length ≤ sizeLine)
    (h : ∀ p H', H p = none → Same H H' → H' p = some (.lst (xs ++ ys)) → Q (.ref p) H') : rCat (.ref p) (.ref q) H Q := ⟨p, q, xs, ys, rfl, rfl, a, b, c, s_new (P := fun p H' => Q (.ref p) H') h⟩
theorem s_sl {rs : V → Option Int → Option Int → Hp → VK → Prop} {tl th : TO} (h : te σ H fun x H1 => tl σ H1 fun l H2 => th σ H2 fun u H3 => rs x l u H3 Q) : L2.tSl rs te tl th σ H Q := h
theorem s_noP {QO : Option Int → Hp → Prop} (h : QO none H) : tNoPart σ H QO := h
theorem s_part {QO : Option Int → Hp → Prop} (h : te σ H fun x H1 => ∃ i, x = .int i ∧ QO (some i) H1) : tPart te σ H QO := h
theorem s_pi {QO : Option Int → Hp → Prop} (h : QO (some i) H) : ∃ k, V.int i = .int k ∧ QO (some k) H := ⟨i, rfl, h⟩
theorem s_slL {p : Addr} {xs : List V} {lo hi : Option Int} (c : SqL K H p xs) (h : ∀ p H', H p = none → Same H H' → H' p = some (.lst (cutV xs lo hi)) → Q (.ref p) H') : rSlL K (.ref p) lo hi H Q := ⟨p, xs, rfl, c, s_new (P := fun p H' => Q (.ref p) H') h⟩
theorem s_slS {z : Str} {lo hi : Option Int} (l : z.length ≤ sizeLine) (h : Q (.str (cutS z lo hi)) H) : rSlS (.str z) lo hi H Q := ⟨z, rfl, l, h⟩
def rRevL (K : PySem.W.Frag) : V → Hp → VK → Prop := fun x H1 Q => ∃ a xs, x = .ref a ∧ SqL K H1 a xs ∧ ∀ p, H1 p = none → Q (.ref p) (upd H1 p (.lst xs.reverse))
theorem s_rev {p : Addr} {xs : List V} (c : SqL K H p xs) (h : ∀ p H', H p = none → Same H H' → H' p = some (.lst xs.reverse) → Q (.ref p) H') : rRevL K (.ref p) H Q := ⟨p, xs, rfl, c, s_new (P := fun p H' => Q (.ref p) H') h⟩
theorem s_revL (h : te σ H fun x H1 => rRevL K x H1 Q) : tRevL K te σ H Q := h
theorem s_for {wi : TI} {tb : TS} (h : wi σ H fun J H1 => ∃ W : Nat → Nat → L2.St → Hp → Prop, (∃ m, W 0 m σ H1) ∧ ∀ i m σ H, W i m σ H →
  (J.stop i H ∧ D.nx σ H) ∨ (J.go i H ∧ ∃ N : L2.St → Hp → Prop, (∀ σ' H', N σ' H' → ∃ m', m' < m ∧ W (i + 1) m' σ' H') ∧ ∀ x H', J.yld i H x H' → g x σ H' fun σ2 H2 => tb { D with nx := N, ct := N, bk := D.nx } σ2 H2)) : tFor wi g tb D σ H := h
theorem s_dnew (h : Mk (.dK []) H Q) : tDNewK σ H Q := h
theorem s_bm {T : String} {ro : V → List V → Hp → VK → Prop} {to : TE} (h : to σ H fun x H1 => tyV K T x H1 ∧ tr σ H1 fun xs H2 => ro x xs H2 Q) : tBM K T ro to tr σ H Q := h
theorem s_tyL {p : Addr} {xs : List V} {B : Prop} (c : SqL K H p xs) (h : B) : tyV K "list" (.ref p) H ∧ B := ⟨.inl ⟨rfl, xs, c⟩, h⟩
theorem s_app {p : Addr} {xs : List V} (e : H p = some (.lst xs)) (c : xs.length < sizeLine) (h : Q .non (upd H p (.lst (xs ++ [y])))) : rAppend (.ref p) [y] H Q := ⟨p, xs, y, rfl, rfl, e, c, h⟩
theorem s_in {p : Addr} {xs : List V} (c : SqL K H p xs) (a : flatV x = true) (b : xs.all flatV = true) (h : Q (.bl (inV x xs)) H) : rIn K false x (.ref p) H Q := ⟨p, xs, rfl, .inl c, a, b, h⟩
theorem s_nin {p : Addr} {xs : List V} (c : SqL K H p xs) (a : flatV x = true) (b : xs.all flatV = true) (h : Q (.bl (!inV x xs)) H) : rIn K true x (.ref p) H Q := ⟨p, xs, rfl, .inl c, a, b, h⟩
theorem s_m1 {ro : V → List V → Hp → VK → Prop} {to : TE} (h : to σ H fun x H1 => (∃ a, x = .str a) ∧ te σ H1 fun y H2 => ro x [y] H2 Q) : tM1 ro to te σ H Q := h
theorem s_isStr {z : Str} {B : Prop} (h : B) : (∃ a, V.str z = .str a) ∧ B := ⟨⟨z, rfl⟩, h⟩
def rJoin (K : PySem.W.Frag) : V → List V → Hp → VK → Prop := fun x xs H Q => ∃ a p, ∃ ys : List Str, x = .str a ∧ xs = [.ref p] ∧ (SqL K H p (ys.map V.str) ∨ SqT K H p (ys.map V.str)) ∧ (ys.map (·.length)).sum + ys.length * a.length ≤ 16777216 ∧ Q (.str (Txt.join a ys)) H
theorem s_join {a : Str} {p : Addr} {ys : List Str} (e : H p = some (.lst (ys.map V.str))) (c : (ys.map (·.length)).sum + ys.length * a.length ≤ 16777216) (h : Q (.str (Txt.join a ys)) H) : rJoin K (.str a) [.ref p] H Q := ⟨a, p, ys, rfl, rfl, .inl (SqL.of e), c, h⟩
/-- bounds on sizes -/
theorem sz1 {n : Nat} (h : n ≤ 1000000) : n ≤ sizeLine := Nat.le_trans h (by decide)
theorem sz2 {n : Nat} (h : n < 1000000) : n < sizeLine := Nat.lt_of_lt_of_le h (by decide)
end
end G


namespace G
open PySem PySem.Spec PyProof.Rows L2
/-! ### rules with the written part named -/
section
variable {X : Cx} (K : PySem.W.Frag) (h : X.K = K := by rfl)
include h
theorem ixL : IxR X (rIxL K) := by subst h; exact ix_list
theorem ixT : IxR X (rIxT K) := by subst h; exact ix_tup
theorem ixQ : IxR X (rIx K) := by subst h; exact ix_seq
theorem inQ : OpR X (compareOp .In) (rIn K false) := by subst h; exact op_in_seq
theorem ninQ : OpR X (compareOp .NotIn) (rIn K true) := by subst h; exact op_notIn_seq
theorem isiK : CallR X (.builtin "isinstance") (rIsi K) := by subst h; exact call_isi
theorem lenK : CallR X (.builtin "len") (rLen K) := by subst h; exact c_len
theorem tupOfK : CallR X (.type "tuple") (rTupOf K) := by subst h; exact c_tupOf
theorem lstOfK : CallR X (.type "list") (rLstOf K) := by subst h; exact c_lstOf
theorem slLK : SlR X (rSlL K) := by subst h; exact sl_list
theorem allK (hc : X.calm = true := by rfl) : CallR X (.builtin "all") (rAll K) := by subst h; exact cr_all hc
theorem anyK (hc : X.calm = true := by rfl) : CallR X (.builtin "any") (rAny K) := by subst h; exact cr_any hc
theorem sumK (hc : X.calm = true := by rfl) : CallR X (.builtin "sum") (rSum K) := by subst h; exact cr_sum hc
theorem sortedSK : CallR X (.builtin "sorted") (rSortedS K) := by subst h; exact cr_sortedS
theorem eqDK (hu : X.A.units + 64 < cLine) : OpR X (compareOp .Eq) (rEqD K) := by subst h; exact op_eqD hu
theorem neDK (hu : X.A.units + 64 < cLine) : OpR X (compareOp .NotEq) (rNeD K) := by subst h; exact op_neD hu
theorem reprK (hgd : Gd X.A) (hu : X.A.units + 64 < cLine) : CallR X (.builtin "repr") (rRepr K) := by subst h; exact c_repr hgd hu
theorem piL {tg e : Expr} {t : TE} (he : PE X e t) : PI X tg e (iList K t) := by subst h; exact pi_list he
theorem piT {tg e : Expr} {t : TE} (he : PE X e t) : PI X tg e (iTup K t) := by subst h; exact pi_tup he
theorem revLK {e : Expr} {te : TE} {k : Nat} {p1 p2 p3 pos : Pos} (he : PE X e te) : PE X (.Subscript e (.Slice none none (some (.UnaryOp .USub (.Constant (.int 1) k p1) p2)) p3) pos) (tRevL K te) := by subst h; exact pe_revL he
theorem appendK {o e : Expr} {to : TE} {t : TA} {apos cpos : Pos} (ho : PE X o to) (ha : PA X [e] t)
    (hbase : attributeBase o "append" X.env (eval o X.env) = eval o X.env := by rfl)
    (hfew : ((backTo cpos (starEach [e] X.env)).all (fun x => !x.1) && (backToKw cpos (keywordEach [] X.env)).all (fun x => x.1.isSome)
      && decide ([e].length + ([] : List Keyword).length + (if ([] : List Keyword).isEmpty then 0 else 1) < 30)) = true := by rfl)
    (hline : (apos.endLine == cpos.line) = true := by rfl) (hs : starEach [e] X.env = (false, eval e X.env) :: starEach [] X.env := by rfl)
    (hplain : (backTo cpos (starEach [] X.env)).any (·.1) = false := by rfl) :
    PE X (.Call (.Attribute o "append" apos) [e] [] cpos) (tBM K "list" rAppend to t) := by
  subst h
  exact pe_bm PySem.F.plainAttrs_list PySem.F.slot_list_append PySem.F.type_list_append mt_append ho ha hbase hfew hline hs hplain
theorem joinK {o e : Expr} {to te : TE} {apos pos : Pos} (ho : PE X o to) (he : PE X e te) (hs : starEach [e] X.env = [(false, eval e X.env)] := by rfl)
    (hbase : attributeBase o "join" X.env (eval o X.env) = eval o X.env := by rfl) (hline : (apos.endLine == pos.line) = true := by rfl) :
    PE X (.Call (.Attribute o "join" apos) [e] [] pos) (tM1 (rJoin K) to te) := by
  subst h
  exact pe_join ho he hs hbase hline
end
end G


namespace G
open PySem PySem.Spec PyProof.Rows L2
/-- text * int -/
def rMulS : R2 := fun x y H Q => ∃ z n, x = .str z ∧ y = .int n ∧ MulOk z n ∧ Q (.str (Txt.mul z n)) H
theorem o_mulS {X : Cx} : OpR X (binaryOp .Mult) rMulS := by
  intro pins s σ H x y v u Q I rx ry h
  obtain ⟨z, n, rfl, rfl, ok, q⟩ := h
  obtain ⟨t, rfl⟩ := rx
  obtain ⟨t', rfl⟩ := ry
  exact SB.mul ok fun t k => ⟨.str _, H, I.tok _, ⟨_, rfl⟩, q⟩
/-- a comprehension over a text -/
theorem lc_str {z : Str} {g : TG} {tt : TT} {te : TE} {vs : List Nat} {σ : L2.St} {H1 : Hp} {D : Addr} {Qd : Hp → Prop} (Pv : Nat → Hp → Prop) (h0 : Pv 0 (upd H1 D (.lst [])))
    (hs : ∀ i c H, z.cps.toList[i]? = some c → Pv i H → g (.str ⟨#[c]⟩) (wipe σ vs) H fun σ2 H2 => wipe σ2 vs = wipe σ vs ∧ tt σ2 H2 fun b H3 =>
      if b = true then te σ2 H3 fun y H4 => ∃ acc, H4 D = some (.lst acc) ∧ acc.length < sizeLine ∧ Pv (i + 1) (upd H4 D (.lst (acc ++ [y]))) else Pv (i + 1) H3)
    (hd : ∀ H, Pv z.cps.size H → Qd H) :
    ∃ W : Nat → Nat → Hp → Prop, (∃ m, W 0 m (upd H1 D (.lst []))) ∧ ∀ i m H, W i m H →
      ((Its z).stop i H ∧ Qd H) ∨ ((Its z).go i H ∧ ∃ Nx : Hp → Prop, (∀ H', Nx H' → ∃ m', m' < m ∧ W (i + 1) m' H') ∧ ∀ x H', (Its z).yld i H x H' → g x (wipe σ vs) H' fun σ2 H2 => wipe σ2 vs = wipe σ vs ∧ tt σ2 H2 fun b H3 =>
        if b = true then te σ2 H3 fun y H4 => ∃ acc, H4 D = some (.lst acc) ∧ acc.length < sizeLine ∧ Nx (upd H4 D (.lst (acc ++ [y]))) else Nx H3) := by
  refine ⟨fun i m H => m = z.cps.size - i ∧ i ≤ z.cps.size ∧ Pv i H, ⟨z.cps.size, by simp, Nat.zero_le _, h0⟩, ?_⟩
  rintro i m H ⟨rfl, hi, p⟩
  by_cases hlt : i < z.cps.size
  · refine .inr ⟨hlt, Pv (i + 1), fun H' p' => ⟨z.cps.size - (i + 1), by omega, rfl, hlt, p'⟩, ?_⟩
    rintro x H' ⟨rfl, c, hc, rfl⟩
    exact hs i c _ (by rw [Array.getElem?_toList]; exact hc) p
  · have e : i = z.cps.size := by omega
    subst e
    exact .inl ⟨Nat.le_refl _, hd H p⟩
/-! ### things of any kind -/
def isS : V → Bool
  | .str _ => true
  | _ => false
def isI : V → Bool
  | .int _ => true
  | _ => false
def isB : V → Bool
  | .bl _ => true
  | _ => false
def tupH : Option HO → Option (List V)
  | some (.tup xs) => some xs
  | _ => none
def tupOf (H : Hp) : V → Option (List V)
  | .ref q => tupH (H q)
  | _ => none
theorem tupOf_ref {H : Hp} {q : Addr} {xs : List V} (h : H q = some (.tup xs)) : tupOf H (.ref q) = some xs := by
  show tupH (H q) = _
  rw [h]
  rfl
/-- all that stood outside A stands as it stood -/
def Ag (A : Addr → Prop) (H H' : Hp) : Prop := ∀ a o, ¬ A a → H a = some o → H' a = some o
/-- what is there -/
def Al (H : Hp) : Addr → Prop := fun a => H a ≠ none
theorem Rx.ag {M : List Addr} {A : Addr → Prop} {H H' : Hp} (r : Rx M H H') (h : ∀ a ∈ M, A a) : Ag A H H' := fun a o n e => r a o (fun z => n (h a z)) e
theorem Same.ag {A : Addr → Prop} {H H' : Hp} (r : Same H H') : Ag A H H' := fun a o _ e => r a o e
/-- a thing of depth n that holds nothing of A -/
def Th (A : Addr → Prop) (H : Hp) : Nat → V → Prop
  | _, .non => True
  | _, .bl _ => True
  | _, .int _ => True
  | _, .str z => z.length ≤ 100
  | 0, .ref q => ¬ A q ∧ ((∃ xs, H q = some (.lst xs)) ∨ (∃ kvs, H q = some (.dK kvs)) ∨ ∃ xs, H q = some (.tup xs))
  | n + 1, .ref q => ¬ A q ∧ ((∃ xs, H q = some (.lst xs)) ∨ (∃ kvs, H q = some (.dK kvs)) ∨ ∃ xs, H q = some (.tup xs) ∧ xs.length ≤ 100 ∧ ∀ x ∈ xs, Th A H n x)
  | _, _ => False
theorem Th.stab {A : Addr → Prop} {H H' : Hp} (r : Ag A H H') : ∀ {n : Nat} {v : V}, Th A H n v → Th A H' n v := by
  intro n
  induction n with
  | zero =>
    intro v h
    cases v with
    | ref q =>
      obtain ⟨ne, h⟩ := h
      refine ⟨ne, ?_⟩
      rcases h with ⟨xs, h⟩ | ⟨xs, h⟩ | ⟨xs, h⟩
      · exact .inl ⟨xs, r _ _ ne h⟩
      · exact .inr (.inl ⟨xs, r _ _ ne h⟩)
      · exact .inr (.inr ⟨xs, r _ _ ne h⟩)
    | _ => exact h
  | succ n ih =>
    intro v h
    cases v with
    | ref q =>
      obtain ⟨ne, h⟩ := h
      refine ⟨ne, ?_⟩
      rcases h with ⟨xs, h⟩ | ⟨xs, h⟩ | ⟨xs, h, l, a⟩
      · exact .inl ⟨xs, r _ _ ne h⟩
      · exact .inr (.inl ⟨xs, r _ _ ne h⟩)
      · exact .inr (.inr ⟨xs, r _ _ ne h, l, fun x hx => ih (a x hx)⟩)
    | _ => exact h
theorem Th.anti {A A' : Addr → Prop} {H : Hp} (r : ∀ a, A a → A' a) : ∀ {n : Nat} {v : V}, Th A' H n v → Th A H n v := by
  intro n
  induction n with
  | zero =>
    intro v h
    cases v with
    | ref q => exact ⟨fun z => h.1 (r _ z), h.2⟩
    | _ => exact h
  | succ n ih =>
    intro v h
    cases v with
    | ref q =>
      obtain ⟨ne, h⟩ := h
      refine ⟨fun z => ne (r _ z), ?_⟩
      rcases h with h | h | ⟨xs, h, l, a⟩
      · exact .inl h
      · exact .inr (.inl h)
      · exact .inr (.inr ⟨xs, h, l, fun x hx => ih (a x hx)⟩)
    | _ => exact h
theorem Th.down {A : Addr → Prop} {H : Hp} {n : Nat} {v : V} (h : Th A H (n + 1) v) : Th A H 0 v := by
  cases v with
  | ref q =>
    obtain ⟨ne, h⟩ := h
    refine ⟨ne, ?_⟩
    rcases h with h | h | ⟨xs, h, _⟩
    · exact .inl h
    · exact .inr (.inl h)
    · exact .inr (.inr ⟨xs, h⟩)
  | _ => exact h
theorem Th.tup {A : Addr → Prop} {H : Hp} {n : Nat} {q : Addr} {xs : List V} (h : Th A H (n + 1) (.ref q)) (e : H q = some (.tup xs)) : xs.length ≤ 100 ∧ ∀ x ∈ xs, Th A H n x := by
  obtain ⟨ne, h⟩ := h
  rcases h with ⟨ys, h⟩ | ⟨ys, h⟩ | ⟨ys, h, l, a⟩
  · rw [e] at h; cases h
  · rw [e] at h; cases h
  · rw [e] at h; cases h; exact ⟨l, a⟩
/-- what is asked of its type -/
theorem Th.ty {A : Addr → Prop} {H : Hp} {n : Nat} {v : V} (K : PySem.W.Frag) (h : Th A H n v) : ∃ a : String, TyX K H v (.type a) ∧ kitB a "str" = some (isS v) ∧
    kitB a "int" = some (isI v || isB v) ∧ kitB a "bool" = some (isB v) ∧ kitB a "tuple" = some (tupOf H v).isSome := by
  have h0 : Th A H 0 v := by
    cases n with
    | zero => exact h
    | succ n => exact h.down
  cases v with
  | non => exact ⟨"NoneType", .base .non, (show kitB "NoneType" "str" = some false by decide +kernel), (show kitB "NoneType" "int" = some false by decide +kernel), (show kitB "NoneType" "bool" = some false by decide +kernel), (show kitB "NoneType" "tuple" = some false by decide +kernel)⟩
  | bl b => exact ⟨"bool", .base (.bl b), (show kitB "bool" "str" = some false by decide +kernel), (show kitB "bool" "int" = some true by decide +kernel), (show kitB "bool" "bool" = some true by decide +kernel), (show kitB "bool" "tuple" = some false by decide +kernel)⟩
  | int i => exact ⟨"int", .base (.int i), (show kitB "int" "str" = some false by decide +kernel), (show kitB "int" "int" = some true by decide +kernel), (show kitB "int" "bool" = some false by decide +kernel), (show kitB "int" "tuple" = some false by decide +kernel)⟩
  | str x => exact ⟨"str", .base (.str x), (show kitB "str" "str" = some true by decide +kernel), (show kitB "str" "int" = some false by decide +kernel), (show kitB "str" "bool" = some false by decide +kernel), (show kitB "str" "tuple" = some false by decide +kernel)⟩
  | byt b => exact h0.elim
  | flt b => exact h0.elim
  | ty b => exact h0.elim
  | ref q =>
    obtain ⟨ne, h0⟩ := h0
    rcases h0 with ⟨xs, e⟩ | ⟨xs, e⟩ | ⟨xs, e⟩
    · refine ⟨"list", .base (.lst e), (show kitB "list" "str" = some false by decide +kernel), (show kitB "list" "int" = some false by decide +kernel), (show kitB "list" "bool" = some false by decide +kernel), ?_⟩
      show _ = some (tupH (H q)).isSome
      rw [e]
      exact (show kitB "list" "tuple" = some false by decide +kernel)
    · refine ⟨"dict", .base (.dK e), (show kitB "dict" "str" = some false by decide +kernel), (show kitB "dict" "int" = some false by decide +kernel), (show kitB "dict" "bool" = some false by decide +kernel), ?_⟩
      show _ = some (tupH (H q)).isSome
      rw [e]
      exact (show kitB "dict" "tuple" = some false by decide +kernel)
    · refine ⟨"tuple", .base (.tup e), (show kitB "tuple" "str" = some false by decide +kernel), (show kitB "tuple" "int" = some false by decide +kernel), (show kitB "tuple" "bool" = some false by decide +kernel), ?_⟩
      show _ = some (tupH (H q)).isSome
      rw [e]
      exact (show kitB "tuple" "tuple" = some true by decide +kernel)
theorem s_isi {K : PySem.W.Frag} {H : Hp} {Q : VK} {v : V} {a n : String} {b : Bool} (ty : TyX K H v (.type a)) (e : kitB a n = some b) (h : Q (.bl b) H) : rIsi K [v, .ty n] H Q :=
  ⟨v, .ty n, .type a, .type n, b, rfl, .ty n, ty, kit_ty e, h⟩
theorem s_isiS {K : PySem.W.Frag} {H : Hp} {Q : VK} {v : V} {A : Addr → Prop} {n : Nat} (t : Th A H n v) (h : Q (.bl (isS v)) H) : rIsi K [v, .ty "str"] H Q := by
  obtain ⟨a, ty, e, _⟩ := t.ty K
  exact s_isi ty e h
theorem s_isiI {K : PySem.W.Frag} {H : Hp} {Q : VK} {v : V} {A : Addr → Prop} {n : Nat} (t : Th A H n v) (h : Q (.bl (isI v || isB v)) H) : rIsi K [v, .ty "int"] H Q := by
  obtain ⟨a, ty, _, e, _⟩ := t.ty K
  exact s_isi ty e h
theorem s_isiB {K : PySem.W.Frag} {H : Hp} {Q : VK} {v : V} {A : Addr → Prop} {n : Nat} (t : Th A H n v) (h : Q (.bl (isB v)) H) : rIsi K [v, .ty "bool"] H Q := by
  obtain ⟨a, ty, _, _, e, _⟩ := t.ty K
  exact s_isi ty e h
theorem s_isiT {K : PySem.W.Frag} {H : Hp} {Q : VK} {v : V} {A : Addr → Prop} {n : Nat} (t : Th A H n v) (h : Q (.bl (tupOf H v).isSome) H) : rIsi K [v, .ty "tuple"] H Q := by
  obtain ⟨a, ty, _, _, _, e⟩ := t.ty K
  exact s_isi ty e h
theorem ite_t {c : Bool} {A B : Prop} (e : c = true) (h : A) : if c = true then A else B := by
  rw [if_pos e]
  exact h
theorem ite_f {c : Bool} {A B : Prop} (e : c = false) (h : B) : if c = true then A else B := by
  rw [if_neg (by rw [e]; exact Bool.false_ne_true)]
  exact h
theorem ite_b {c : Bool} {A B : Prop} (h1 : c = true → A) (h2 : c = false → B) : if c = true then A else B := by
  cases e : c with
  | true => rw [if_pos rfl]; exact h1 e
  | false => rw [if_neg Bool.false_ne_true]; exact h2 e
theorem ite_nf {A B : Prop} (h : A) : if (!false) = true then A else B := h
theorem ite_nt {A B : Prop} (h : B) : if (!true) = true then A else B := h
theorem rtb {Q : VK} {H : Hp} {b b' : Bool} (h : Q (.bl b) H) (e : b' = b) : Q (.bl b') H := by
  rw [e]
  exact h
theorem isS_str {v : V} (h : isS v = true) : ∃ z, v = .str z := by
  cases v with
  | str z => exact ⟨z, rfl⟩
  | _ => cases h
theorem isI_int {v : V} (h : isI v = true) : ∃ i, v = .int i := by
  cases v with
  | int z => exact ⟨z, rfl⟩
  | _ => cases h
/-! ### names, symbols, values -/
def letS : Str := "abcdefghijklmnopqrstuvwxyz"
def digS : Str := "0123456789"
def nameS (z : Str) : Bool := decide (1 ≤ z.length ∧ z.length ≤ 8) && !decide (z = "view") && (match z.cps.toList with | c :: _ => decide (c ∈ letS.cps.toList) | [] => false) && z.cps.toList.all fun c => decide (c ∈ (letS ++ digS).cps.toList)
def nameV : V → Bool
  | .str z => nameS z
  | _ => false
def symV : V → Bool
  | .str z => decide (z = "@") || nameS z
  | _ => false
def natV : V → Bool
  | .int i => decide (0 ≤ i)
  | _ => false
def pairV (H : Hp) (v : V) : Bool := match tupOf H v with
  | some [a, b] => symV a && natV b
  | _ => false
def keyV (H : Hp) (v : V) : Str := match tupOf H v with
  | some (.str z :: _) => z
  | _ => Str.empty
def ascS : List Str → Bool
  | a :: b :: r => decide (a.cps.toList < b.cps.toList) && ascS (b :: r)
  | _ => true
def valsV (H : Hp) (v : V) : Bool := match tupOf H v with
  | some xs => xs.all (pairV H) && ascS (xs.map (keyV H))
  | none => false
def spAsk (n : Nat) (f : Hp → V → Bool) : Sp := fun vs H Q _ => ∃ (v : V) (A : Addr → Prop), vs = [v] ∧ Th A H n v ∧ ∀ H', Same H H' → Q (.bl (f H v)) H'
theorem tupOf_rx {M : List Addr} {H H' : Hp} (r : Rx M H H') {q : Addr} {xs : List V} (n : q ∉ M) (h : tupOf H (.ref q) = some xs) : tupOf H' (.ref q) = some xs := by
  have h : tupH (H q) = some xs := h
  show tupH (H' q) = some xs
  cases e : H q with
  | none => rw [e] at h; cases h
  | some o =>
    rw [e] at h
    rw [r _ _ n e]
    exact h
theorem tupOf_at {H : Hp} {v : V} {xs : List V} (h : tupOf H v = some xs) : ∃ q, v = .ref q ∧ H q = some (.tup xs) := by
  cases v with
  | ref q =>
    have h : tupH (H q) = some xs := h
    refine ⟨q, rfl, ?_⟩
    cases e : H q with
    | none => rw [e] at h; cases h
    | some o =>
      rw [e] at h
      cases o with
      | tup ys => cases h; rfl
      | _ => cases h
  | _ => cases h
end G


namespace G
open PySem PySem.Spec PyProof.Rows L2
/-- what a comprehension asks behind its iterable -/
def LC (J : It) (g : TG) (tt : TT) (te : TE) (vs : List Nat) (σ : L2.St) (Q : VK) (H1 : Hp) : Prop := ∀ D, H1 D = none → ∃ W : Nat → Nat → Hp → Prop, (∃ m, W 0 m (upd H1 D (.lst []))) ∧ ∀ i m H, W i m H →
  (J.stop i H ∧ Q (.ref D) H) ∨ (J.go i H ∧ ∃ Nx : Hp → Prop, (∀ H', Nx H' → ∃ m', m' < m ∧ W (i + 1) m' H') ∧ ∀ x H', J.yld i H x H' → g x (wipe σ vs) H' fun σ2 H2 => wipe σ2 vs = wipe σ vs ∧ tt σ2 H2 fun b H3 =>
    if b = true then te σ2 H3 fun y H4 => ∃ acc, H4 D = some (.lst acc) ∧ acc.length < sizeLine ∧ Nx (upd H4 D (.lst (acc ++ [y]))) else Nx H3)
/-- what a for asks behind its iterable -/
def FR (J : It) (g : TG) (tb : TS) (D : Ends) (σ : L2.St) (H1 : Hp) : Prop := ∃ W : Nat → Nat → L2.St → Hp → Prop, (∃ m, W 0 m σ H1) ∧ ∀ i m σ H, W i m σ H →
  (J.stop i H ∧ D.nx σ H) ∨ (J.go i H ∧ ∃ N : L2.St → Hp → Prop, (∀ σ' H', N σ' H' → ∃ m', m' < m ∧ W (i + 1) m' σ' H') ∧ ∀ x H', J.yld i H x H' → g x σ H' fun σ2 H2 => tb { D with nx := N, ct := N, bk := D.nx } σ2 H2)
section
variable {K : PySem.W.Frag} {σ : L2.St} {H : Hp} {Q : VK} {D : Ends} {wi : TI} {g : TG} {tt : TT} {te : TE} {tb : TS} {vs : List Nat} {tr : TA} {R : It → Hp → Prop} {p : Addr}
theorem s_lc (h : wi σ H fun J H1 => LC J g tt te vs σ Q H1) : tLc wi g tt te vs σ H Q := h
theorem s_fr (h : wi σ H fun J H1 => FR J g tb D σ H1) : tFor wi g tb D σ H := h
theorem s_iStr (h : te σ H fun v H1 => ∃ x, v = .str x ∧ R (Its x) H1) : iStr te σ H R := h
theorem s_iLst (h : te σ H fun x H1 => ∃ a, x = .ref a ∧ (∃ xs, SqL K H1 a xs) ∧ R (Itl K a) H1) : iList K te σ H R := h
theorem s_iTup (h : te σ H fun x H1 => ∃ a, x = .ref a ∧ (∃ xs, SqT K H1 a xs) ∧ R (Itt K a) H1) : iTup K te σ H R := h
theorem s_iR1 (h : tr σ H fun vs H1 => ∃ j : Int, vs = [.int j] ∧ -(2 ^ 62) ≤ j ∧ j < 2 ^ 62 ∧ R (Itr 0 j.toNat) H1) : iRng1 tr σ H R := h
theorem s_exL {xs : List V} {B : Prop} (c : SqL K H p xs) (h : B) : (∃ xs, SqL K H p xs) ∧ B := ⟨⟨xs, c⟩, h⟩
theorem s_exT {xs : List V} {B : Prop} (c : SqT K H p xs) (h : B) : (∃ xs, SqT K H p xs) ∧ B := ⟨⟨xs, c⟩, h⟩
theorem s_bd {j : Int} {B : Prop} (a : -(2 ^ 62) ≤ j) (b : j < 2 ^ 62) (h : B) : -(2 ^ 62) ≤ j ∧ j < 2 ^ 62 ∧ B := ⟨a, b, h⟩
theorem s_yes {QB : Bool → Hp → Prop} (h : QB true H) : tYes σ H QB := h
/-- walks that give the values xs -/
def strV (z : Str) : List V := z.cps.toList.map fun c => .str ⟨#[c]⟩
def rngV (n : Nat) : List V := (List.range n).map fun i => .int (i : Nat)
theorem wx_str {z : Str} : Walk (Its z) (strV z).length (fun _ => True) (YAt (strV z)) := by
  have e : (strV z).length = z.cps.size := by simp [strV]
  rw [e]
  refine walk_str.mono (fun _ h => h) ?_
  rintro i H x H' _ _ ⟨e, c, hc, rfl⟩
  refine ⟨e, ?_⟩
  simp [strV, hc]
theorem wx_rng {n : Nat} : Walk (Itr 0 n) (rngV n).length (fun _ => True) (YAt (rngV n)) := by
  have e : (rngV n).length = n := by simp [rngV]
  rw [e]
  refine walk_range.mono (fun _ h => h) ?_
  rintro i H x H' hi _ ⟨e, rfl⟩
  refine ⟨e, ?_⟩
  simp [rngV, hi]
/-- a comprehension that writes nothing: each value by f -/
theorem lcP {J : It} {xs : List V} {G : Hp → Prop} (w : Walk J xs.length G (YAt xs)) (f : V → V) (hG : ∀ H1, Same H H1 → G H1) (hl : xs.length ≤ 1000000)
    (hs : ∀ x H1 (Q1 : VK), x ∈ xs → Same H H1 → (∀ H2, Same H1 H2 → Q1 (f x) H2) → g x (wipe σ vs) H1 fun σ2 H2 => wipe σ2 vs = wipe σ vs ∧ te σ2 H2 Q1)
    (gm : ∀ x σ1 H1 (P P' : L2.St → Hp → Prop), (∀ a b, P a b → P' a b) → g x σ1 H1 P → g x σ1 H1 P')
    (h : ∀ D H', H D = none → Same H H' → H' D = some (.lst (xs.map f)) → Q (.ref D) H') : LC J g tYes te vs σ Q H := by
  intro D hD
  refine lc_it w (fun i H1 => Same H H1 ∧ H1 D = some (.lst ((xs.take i).map f))) ⟨?_, ?_⟩ (fun i H1 _ q => hG H1 q.1) ?_ ?_
  · intro a o e
    rw [upd_ne (ne_of_none e hD)]
    exact e
  · exact upd_same
  · rintro i x H1 H2 hi ⟨r, hd⟩ ⟨rfl, hx⟩
    refine gm _ _ _ _ _ ?_ (hs x H2 (fun y H4 => ∃ acc, H4 D = some (.lst acc) ∧ acc.length < sizeLine ∧ (Same H (upd H4 D (.lst (acc ++ [y]))) ∧ (upd H4 D (.lst (acc ++ [y]))) D = some (.lst ((xs.take (i + 1)).map f)))) (List.mem_of_getElem? hx) r ?_)
    · rintro σ2 H3 ⟨e, q⟩
      refine ⟨e, s_yes (iteT ?_)⟩
      exact q
    · intro H4 r4
      refine ⟨_, r4 _ _ hd, ?_, ?_, ?_⟩
      · rw [List.length_map, List.length_take]
        exact sz2 (by omega)
      · intro a o e
        rw [upd_ne (ne_of_none e hD)]
        exact r4 _ _ (r _ _ e)
      · rw [upd_same]
        have e : xs.take (i + 1) = xs.take i ++ [x] := by rw [List.take_add_one, hx]; rfl
        rw [e, List.map_append]
        rfl
  · rintro H1 ⟨r, hd⟩
    rw [List.take_length] at hd
    exact h D H1 hD r hd
theorem gm_name {n : Nat} : ∀ x σ1 H1 (P P' : L2.St → Hp → Prop), (∀ a b, P a b → P' a b) → gName n x σ1 H1 P → gName n x σ1 H1 P' := fun _ _ _ _ _ h q => h _ _ q
/-- a claim about a value and what it holds -/
structure Ft (P : (Addr → Prop) → V → Hp → Prop) : Prop where
  anti : ∀ A A' v H, (∀ a, A a → A' a) → P A' v H → P A v H
  stab : ∀ A v H1 H2, Ag A H1 H2 → P A v H1 → P A v H2
theorem Ft.th {n : Nat} : Ft (fun A v H => Th A H n v) := ⟨fun _ _ _ _ r h => Th.anti r h, fun _ _ _ _ r h => Th.stab r h⟩
theorem Ft.val {P : V → Prop} : Ft (fun _ v _ => P v) := ⟨fun _ _ _ _ _ h => h, fun _ _ _ _ _ h => h⟩
/-- a comprehension that draws from p: each value keeps P -/
theorem lcD {P : (Addr → Prop) → V → Hp → Prop} (fp : Ft P) {J : It} {xs : List V} {G : Hp → Prop} (w : Walk J xs.length G (YAt xs)) (d : Dr p H) (hG : ∀ H1, Rx [p] H H1 → G H1) (hl : xs.length ≤ 1000000)
    (hs : ∀ x H1 (Q1 : VK), x ∈ xs → Rx [p] H H1 → Dr p H1 → (∀ v H2, Rx [p] H1 H2 → Dr p H2 → P (Al H1) v H2 → Q1 v H2) → g x (wipe σ vs) H1 fun σ2 H2 => wipe σ2 vs = wipe σ vs ∧ te σ2 H2 Q1)
    (gm : ∀ x σ1 H1 (P P' : L2.St → Hp → Prop), (∀ a b, P a b → P' a b) → g x σ1 H1 P → g x σ1 H1 P')
    (h : ∀ D H' ys, H D = none → Rx [p] H H' → Dr p H' → H' D = some (.lst ys) → ys.length = xs.length → (∀ y ∈ ys, P (fun a => Al H a ∨ a = D) y H') → Q (.ref D) H') : LC J g tYes te vs σ Q H := by
  intro D hD
  obtain ⟨s0, d0, c0, hp, _⟩ := id d
  have npD : D ≠ p := (ne_of_none hp hD).symm
  have nD : D ∉ [p] := by simpa using npD
  have pA : ∀ a ∈ [p], (Al H a ∨ a = D) := by
    intro a ha
    obtain rfl : a = p := by simpa using ha
    exact .inl (by unfold Al; rw [hp]; exact Option.some_ne_none _)
  have dA : ∀ {H1 : Hp} {o : HO}, Ag (fun a => Al H a ∨ a = D) H1 (upd H1 D o) := by
    intro H1 o a u n e
    rw [upd_ne (fun z => n (.inr z))]
    exact e
  have upR : ∀ {H1 : Hp} {o : HO}, Rx [p] H H1 → Rx [p] H (upd H1 D o) := fun r => r.own hD
  have upD : ∀ {H1 : Hp} {o : HO}, Dr p H1 → Dr p (upd H1 D o) := by
    rintro H1 o ⟨s, dd, c, e, r⟩
    exact ⟨s, dd, c, by rw [upd_ne npD.symm]; exact e, r⟩
  refine lc_it w (fun i H1 => Rx [p] H H1 ∧ Dr p H1 ∧ ∃ ys, H1 D = some (.lst ys) ∧ ys.length = i ∧ ∀ y ∈ ys, P (fun a => Al H a ∨ a = D) y H1) ⟨upR (Rx.refl _), upD d, [], upd_same, rfl, fun y hy => (List.not_mem_nil hy).elim⟩ (fun i H1 _ q => hG H1 q.1) ?_ ?_
  · rintro i x H1 H2 hi ⟨r, d1, ys, hd, hy, ha⟩ ⟨rfl, hx⟩
    refine gm _ _ _ _ _ ?_ (hs x H2 (fun y H4 => ∃ acc, H4 D = some (.lst acc) ∧ acc.length < sizeLine ∧ (Rx [p] H (upd H4 D (.lst (acc ++ [y]))) ∧ Dr p (upd H4 D (.lst (acc ++ [y]))) ∧
      ∃ ys, (upd H4 D (.lst (acc ++ [y]))) D = some (.lst ys) ∧ ys.length = i + 1 ∧ ∀ z ∈ ys, P (fun a => Al H a ∨ a = D) z (upd H4 D (.lst (acc ++ [y]))))) (List.mem_of_getElem? hx) r d1 ?_)
    · rintro σ2 H3 ⟨e, q⟩
      refine ⟨e, s_yes (iteT ?_)⟩
      exact q
    · intro v H4 r4 d4 pv
      refine ⟨ys, r4 _ _ nD hd, sz2 (by omega), upR (r.trans r4), upD d4, ys ++ [v], upd_same, by simp [hy], ?_⟩
      intro z hz
      refine fp.stab _ _ H4 _ dA ?_
      rcases List.mem_append.mp hz with hz | hz
      · exact fp.stab _ _ H2 _ (r4.ag pA) (ha z hz)
      · obtain rfl : z = v := by simpa using hz
        refine fp.anti _ _ _ _ ?_ pv
        rintro a (q | rfl)
        · by_cases hap : a = p
          · subst hap
            obtain ⟨_, _, _, e, _⟩ := d1
            unfold Al
            rw [e]
            exact Option.some_ne_none _
          · unfold Al at q ⊢
            cases e : H a with
            | none => exact (q e).elim
            | some o =>
              rw [r a o (by simpa using hap) e]
              exact Option.some_ne_none _
        · unfold Al
          rw [hd]
          exact Option.some_ne_none _
  · rintro H1 ⟨r, d1, ys, hd, hy, ha⟩
    exact h D H1 ys hD r d1 hd hy ha
end
theorem s_all {K : PySem.W.Frag} {H : Hp} {Q : VK} {a : Addr} {bs : List Bool} (c : H a = some (.lst (bs.map V.bl))) (h : Q (.bl (bs.all id)) H) : rAll K [.ref a] H Q := ⟨a, bs, rfl, SqL.of c, h⟩
def sgV (S : Str) : V → V
  | .str z => .bl (match z.cps.toList with | [c] => decide (c ∈ S.cps.toList) | _ => false)
  | _ => .bl false
theorem sgV_map (S z : Str) : (strV z).map (sgV S) = (z.cps.toList.map fun c => decide (c ∈ S.cps.toList)).map V.bl := by
  unfold strV
  rw [List.map_map, List.map_map]
  rfl
theorem mem_strV {z : Str} {x : V} (h : x ∈ strV z) : ∃ c, x = .str ⟨#[c]⟩ := by
  obtain ⟨c, _, rfl⟩ := List.mem_map.mp h
  exact ⟨c, rfl⟩
theorem cons_of_len {z : Str} (h : 1 ≤ z.length) : ∃ c cs, z.cps.toList = c :: cs := by
  cases e : z.cps.toList with
  | nil =>
    have : z.cps.toList.length = 0 := by rw [e]; rfl
    rw [Array.length_toList] at this
    have h2 : z.length = z.cps.size := rfl
    omega
  | cons c cs => exact ⟨c, cs, rfl⟩
theorem strV_len {z : Str} : (strV z).length = z.length := by
  unfold strV
  rw [List.length_map, Array.length_toList]
  rfl
theorem atI_0 {α : Type} {x : α} {xs : List α} : atI (x :: xs) 0 = some x := by
  unfold atI ixN
  rw [if_pos (Int.le_refl 0), if_pos (by rw [List.length_cons]; omega)]
  rfl
theorem atI_of {α : Type} {xs : List α} {i : Nat} {x : α} (h : xs[i]? = some x) : atI xs (i : Int) = some x := by
  obtain ⟨hi, e⟩ := List.getElem?_eq_some_iff.mp h
  unfold atI ixN
  rw [if_pos (by omega), if_pos (by omega)]
  exact h
theorem atI_ofI {α : Type} {xs : List α} {i : Int} (h0 : 0 ≤ i) (h : i < xs.length) : ∃ x, atI xs i = some x ∧ x ∈ xs ∧ xs[i.toNat]? = some x := by
  have hi : i.toNat < xs.length := by omega
  refine ⟨xs[i.toNat], ?_, List.getElem_mem hi, by simp [hi]⟩
  unfold atI ixN
  rw [if_pos h0, if_pos h]
  show xs[i.toNat]? = _
  simp [hi]
end G


namespace G
open PySem PySem.Spec PyProof.Rows L2
def ltS (a b : Str) : Bool := decide (a.cps.toList < b.cps.toList)
theorem ascS_cons {a b : Str} {r : List Str} : ascS (a :: b :: r) = (ltS a b && ascS (b :: r)) := rfl
/-- by places -/
theorem ascS_range : ∀ l : List Str, ascS l = (List.range (l.length - 1)).all fun i => ltS (l.getD i Str.empty) (l.getD (i + 1) Str.empty)
  | [] => rfl
  | [_] => rfl
  | a :: b :: r => by
    rw [ascS_cons, ascS_range (b :: r)]
    show _ = (List.range (r.length + 1)).all _
    rw [List.range_succ_eq_map, List.all_cons, List.all_map]
    rfl
theorem ascS_snoc : ∀ (l : List Str) (a b : Str), ascS (l ++ [a, b]) = (ascS (l ++ [a]) && ltS a b)
  | [], a, b => by show (ltS a b && true) = (true && ltS a b); simp
  | [c], a, b => by show (ltS c a && (ltS a b && true)) = ((ltS c a && true) && ltS a b); simp
  | c :: d :: l, a, b => by
    show (ltS c d && ascS (d :: l ++ [a, b])) = ((ltS c d && ascS (d :: l ++ [a])) && ltS a b)
    rw [ascS_snoc (d :: l) a b, Bool.and_assoc]
theorem ascS_prefix : ∀ (l r : List Str), ascS (l ++ r) = true → ascS l = true
  | [], _, _ => rfl
  | [_], _, _ => rfl
  | a :: b :: l, r, h => by
    have h : (ltS a b && ascS (b :: l ++ r)) = true := h
    rw [Bool.and_eq_true] at h
    rw [ascS_cons, h.1, ascS_prefix (b :: l) r h.2]
    rfl
theorem ascS_take {l : List Str} {i : Nat} (h : ascS (l.take i) = false) : ascS l = false := by
  cases e : ascS l with
  | false => rfl
  | true =>
    have := ascS_prefix (l.take i) (l.drop i) (by rw [List.take_append_drop]; exact e)
    rw [this] at h
    cases h
theorem nameS_ne {z : Str} (h : nameS z = true) : ∃ c cs, z.cps.toList = c :: cs := by
  refine cons_of_len ?_
  unfold nameS at h
  simp only [Bool.and_eq_true, decide_eq_true_eq] at h
  exact h.1.1.1.1
theorem symV_str {v : V} (h : symV v = true) : ∃ z c cs, v = .str z ∧ z.cps.toList = c :: cs := by
  cases v with
  | str z =>
    have h : (decide (z = "@") || nameS z) = true := h
    rw [Bool.or_eq_true, decide_eq_true_eq] at h
    rcases h with h | h
    · subst h
      exact ⟨_, 64, [], rfl, by decide +kernel⟩
    · obtain ⟨c, cs, e⟩ := nameS_ne h
      exact ⟨z, c, cs, rfl, e⟩
  | _ => cases h
theorem natV_int {v : V} (h : natV v = true) : ∃ i, v = .int i ∧ 0 ≤ i := by
  cases v with
  | int i => exact ⟨i, rfl, of_decide_eq_true h⟩
  | _ => cases h
theorem pairV_of {H : Hp} {v a b : V} (h : tupOf H v = some [a, b]) : pairV H v = (symV a && natV b) := by
  unfold pairV
  rw [h]
theorem pairV_none {H : Hp} {v : V} (h : tupOf H v = none) : pairV H v = false := by
  unfold pairV
  rw [h]
theorem pairV_len {H : Hp} {v : V} {xs : List V} (h : tupOf H v = some xs) (n : xs.length ≠ 2) : pairV H v = false := by
  unfold pairV
  rw [h]
  match xs, n with
  | [], _ => rfl
  | [_], _ => rfl
  | [_, _], n => exact (n rfl).elim
  | _ :: _ :: _ :: _, _ => rfl
theorem two_of {xs : List V} (h : xs.length = 2) : ∃ a b, xs = [a, b] := by
  match xs, h with
  | [a, b], _ => exact ⟨a, b, rfl⟩
theorem pairV_iff {H : Hp} {v : V} (h : pairV H v = true) : ∃ (q : Addr) (z : Str) (c : Nat) (cs : List Nat) (i : Int), v = .ref q ∧ H q = some (.tup [.str z, .int i]) ∧ z.cps.toList = c :: cs ∧ 0 ≤ i ∧ keyV H v = z := by
  cases e : tupOf H v with
  | none => rw [pairV_none e] at h; cases h
  | some xs =>
    by_cases hl : xs.length = 2
    · obtain ⟨a, b, rfl⟩ := two_of hl
      rw [pairV_of e, Bool.and_eq_true] at h
      obtain ⟨q, rfl, hq⟩ := tupOf_at e
      obtain ⟨z, c, cs, rfl, hc⟩ := symV_str h.1
      obtain ⟨i, rfl, hi⟩ := natV_int h.2
      refine ⟨q, z, c, cs, i, rfl, hq, hc, hi, ?_⟩
      unfold keyV
      rw [e]
    · rw [pairV_len e hl] at h
      cases h
theorem valsV_none {H : Hp} {v : V} (h : tupOf H v = none) : valsV H v = false := by
  unfold valsV
  rw [h]
theorem valsV_some {H : Hp} {v : V} {xs : List V} (h : tupOf H v = some xs) : valsV H v = (xs.all (pairV H) && ascS (xs.map (keyV H))) := by
  unfold valsV
  rw [h]
theorem valsV_bad {H : Hp} {v x : V} {xs : List V} (h : tupOf H v = some xs) (m : x ∈ xs) (b : pairV H x = false) : valsV H v = false := by
  rw [valsV_some h]
  have : xs.all (pairV H) = false := by
    cases e : xs.all (pairV H) with
    | false => rfl
    | true =>
      rw [List.all_eq_true] at e
      rw [e x m] at b
      cases b
  rw [this]
  rfl
theorem empty_lt {z : Str} {c : Nat} {cs : List Nat} (h : z.cps.toList = c :: cs) : decide ((Str.ofString "").cps.toList < z.cps.toList) = true := by
  rw [h, decide_eq_true_eq]
  exact List.nil_lt_cons c cs
theorem tupOf_stab {A : Addr → Prop} {H H' : Hp} {n : Nat} {v : V} (r : Ag A H H') (t : Th A H n v) : tupOf H' v = tupOf H v := by
  cases v with
  | ref q =>
    have t0 : Th A H 0 (.ref q) := by
      cases n with
      | zero => exact t
      | succ n => exact t.down
    obtain ⟨ne, h⟩ := t0
    show tupH (H' q) = tupH (H q)
    rcases h with ⟨xs, h⟩ | ⟨xs, h⟩ | ⟨xs, h⟩ <;> rw [h, r _ _ ne h]
  | _ => rfl
theorem pairV_stab {H H' : Hp} {A : Addr → Prop} {n : Nat} {v : V} (r : Same H H') (t : Th A H n v) : pairV H' v = pairV H v := by
  unfold pairV
  rw [tupOf_stab (Same.ag (A := A) r) t]
end G


namespace G
open PySem PySem.Spec PyProof.Rows L2
def spCell (K : PySem.W.Frag) : Sp := fun vs H Q _ => ∃ (a : Addr) (ns : List Int) (k : Int), vs = [.ref a, .int k] ∧ SqL K H a (ns.map V.int) ∧ ns.length ≤ 63 ∧ 0 ≤ k ∧ k ≤ 100 ∧
  ∀ (m : Int) (H' : Hp), Same H H' → Q (.int m) H'
def spHeap : Sp := fun vs H Q _ => ∃ m : Int, vs = [.int m] ∧ ∀ (p : Addr) (H' : Hp), H p = none → Same H H' → Dr p H' → Q (.ref p) H'
def spPick (K : PySem.W.Frag) : Sp := fun vs H Q _ => ∃ (p : Addr) (x : V), vs = [.ref p, x] ∧ Dr p H ∧
  ((∃ q xs, x = .ref q ∧ q ≠ p ∧ SqL K H q xs ∧ xs ≠ [] ∧ xs.length ≤ 1000 ∧ ∀ v H', v ∈ xs → Rx [p] H H' → Dr p H' → Q v H') ∨
   (∃ z : Str, x = .str z ∧ 1 ≤ z.length ∧ z.length ≤ 1000 ∧ ∀ c H', c ∈ z.cps.toList → Rx [p] H H' → Dr p H' → Q (.str ⟨#[c]⟩) H'))
/-- plain signs -/
def asc (z : Str) : Prop := ∀ c ∈ z.cps.toList, c < 128
/-- one to eight plain signs -/
def Nm (z : Str) : Prop := 1 ≤ z.length ∧ z.length ≤ 8 ∧ asc z
instance (z : Str) : Decidable (asc z) := inferInstanceAs (Decidable (∀ c ∈ z.cps.toList, c < 128))
instance (z : Str) : Decidable (Nm z) := inferInstanceAs (Decidable (_ ∧ _ ∧ _))
def spName : Sp := fun vs H Q _ => ∃ p : Addr, vs = [.ref p] ∧ Dr p H ∧ ∀ (z : Str) H', Nm z → Rx [p] H H' → Dr p H' → Q (.str z) H'
def spNames : Sp := fun vs H Q _ => ∃ (p : Addr) (n : Int), vs = [.ref p, .int n] ∧ Dr p H ∧ 1 ≤ n ∧ n ≤ 8 ∧
  ∀ q (zs : List Str) H', H q = none → (zs.length : Int) = n → (∀ z ∈ zs, Nm z) → Rx [p] H H' → Dr p H' → H' q = some (.lst (zs.map V.str)) → Q (.ref q) H'
def spBent : Sp := fun vs H Q _ => ∃ (p : Addr) (z : Str), vs = [.ref p, .str z] ∧ z.length ≤ 8 ∧ Dr p H ∧ ∀ (y : Str) H', y.length ≤ 20 → Rx [p] H H' → Dr p H' → Q (.str y) H'
def spOdd : Sp := fun vs H Q _ => ∃ (p : Addr) (z : Str), vs = [.ref p, .str z] ∧ z.length ≤ 8 ∧ Dr p H ∧ ∀ v H', Th (Al H) H' 2 v → Rx [p] H H' → Dr p H' → Q v H'
def spPairs : Sp := fun vs H Q _ => ∃ (p q : Addr) (zs : List Str), vs = [.ref p, .ref q] ∧ Dr p H ∧ q ≠ p ∧ H q = some (.lst (zs.map V.str)) ∧ 1 ≤ zs.length ∧ zs.length ≤ 8 ∧ (∀ z ∈ zs, z.length ≤ 8) ∧
  ∀ v H', Th (Al H) H' 2 v → Rx [p] H H' → Dr p H' → Q v H'
def spRight : Sp := fun vs H Q _ => ∃ p : Addr, vs = [.ref p] ∧ Dr p H ∧ ∀ H', Rx [p] H H' → Dr p H' → Q (.bl true) H'
def spLaw (K : PySem.W.Frag) : Sp := fun vs H Q _ => ∃ (a : Addr) (ns : List Int), vs = [.ref a] ∧ SqL K H a (ns.map V.int) ∧ ns.length ≤ 63 ∧ ∀ H', Q (.bl true) H'
theorem Same.sqt {K : PySem.W.Frag} {H H' : Hp} {a : Addr} {xs : List V} (e : Same H H') (h : SqT K H a xs) : SqT K H' a xs := by
  rcases h with (h | ⟨o, h⟩) | h
  · exact .inl (.inl (e _ _ h))
  · exact .inl (.inr ⟨o, e _ _ h⟩)
  · exact .inr h
theorem lc_of {J : It} {n : Nat} {G : Hp → Prop} {Y : Nat → Hp → V → Hp → Prop} {g : TG} {tb : TS} {D : Ends} {σ : L2.St} {H : Hp} (w : Walk J n G Y) (Pv : Nat → L2.St → Hp → Prop) (h0 : Pv 0 σ H) (hG : ∀ i σ H, i ≤ n → Pv i σ H → G H)
    (hs : ∀ i x σ H H', i < n → Pv i σ H → Y i H x H' → g x σ H' fun σ2 H2 => tb { D with nx := Pv (i + 1), ct := Pv (i + 1), bk := D.nx } σ2 H2) (hd : ∀ σ H, Pv n σ H → D.nx σ H) : FR J g tb D σ H := for_it w Pv h0 hG hs hd
theorem valsV_take {H : Hp} {v : V} {xs : List V} {i : Nat} (h : tupOf H v = some xs) (b : ascS ((xs.map (keyV H)).take i) = false) : valsV H v = false := by
  rw [valsV_some h, ascS_take b, Bool.and_false]
/-- one more key -/
theorem asc_more {l : List Str} {i : Nat} {a b : Str} (ha : l[i]? = some a) (hb : l[i + 1]? = some b) : ascS (l.take (i + 2)) = (ascS (l.take (i + 1)) && ltS a b) := by
  have e1 : l.take (i + 1) = l.take i ++ [a] := by rw [List.take_add_one, ha]; rfl
  have e2 : l.take (i + 2) = l.take i ++ [a, b] := by
    rw [show i + 2 = (i + 1) + 1 from rfl, List.take_add_one, hb, e1, List.append_assoc]
    rfl
  rw [e1, e2, ascS_snoc]
theorem mem_ints {ns : List Int} {x : V} (h : x ∈ ns.map V.int) : ∃ i, x = .int i := by
  obtain ⟨i, _, rfl⟩ := List.mem_map.mp h
  exact ⟨i, rfl⟩
theorem mem_cut {xs : List V} {lo hi : Option Int} {x : V} (h : x ∈ cutV xs lo hi) : x ∈ xs := List.mem_of_mem_drop (List.mem_of_mem_take h)
end G


namespace G
open PySem PySem.Spec PyProof.Rows L2 PySem.StrLaws
theorem len_app (a b : Str) : (a ++ b).length = a.length + b.length := by
  show (a.cps ++ b.cps).size = _
  rw [Array.size_append]
  rfl
theorem len_cut (z : Str) (lo hi : Option Int) : (cutS z lo hi).length ≤ z.length := by
  show (List.toArray _).size ≤ _
  rw [List.size_toArray, List.length_take, List.length_drop, Array.length_toList]
  have : z.length = z.cps.size := rfl
  omega
theorem len_cut_to (z : Str) (n : Nat) : (cutS z none (some (n : Int))).length ≤ n := by
  show (List.toArray _).size ≤ _
  rw [List.size_toArray, List.length_take]
  refine Nat.le_trans (Nat.min_le_left _ _) ?_
  show HT.sIx z.length z.length (some (n : Int)) - HT.sIx z.length 0 none ≤ n
  have h : HT.sIx z.length z.length (some (n : Int)) ≤ n := by
    unfold HT.sIx
    simp
    rw [if_neg (by omega)]
    exact Nat.min_le_left _ _
  omega
theorem len_join (ys : List Str) : (Txt.join (Str.ofString "") ys).length = (ys.map (·.length)).sum := by
  have h := size_glued (Str.ofString "") ys
  have e : (Str.ofString "").length = 0 := by decide
  rw [e, Nat.mul_zero, Nat.add_zero] at h
  exact h
theorem Dr.same {p : Addr} {H H' : Hp} (r : Same H H') (h : Dr p H) : Dr p H' := by
  obtain ⟨s, d, c, e, h⟩ := h
  exact ⟨s, d, c, r _ _ e, h⟩
theorem Dr.ne {p q : Addr} {H : Hp} (h : Dr p H) (e : H q = none) : q ≠ p := by
  obtain ⟨s, d, c, e1, _⟩ := h
  exact (ne_of_none e1 e).symm
theorem Dr.al {p : Addr} {H : Hp} (h : Dr p H) : Al H p := by
  obtain ⟨s, d, c, e1, _⟩ := h
  unfold Al
  rw [e1]
  exact Option.some_ne_none _
/-- signs as texts -/
theorem sum_ones : ∀ {cs : List Nat}, ((cs.map fun c => (⟨#[c]⟩ : Str)).map (·.length)).sum = cs.length
  | [] => rfl
  | c :: cs => by
    rw [List.map_cons, List.map_cons, List.sum_cons, sum_ones, List.length_cons]
    show 1 + _ = _
    omega
theorem signs_of : ∀ {ys : List V}, (∀ y ∈ ys, ∃ c : Nat, y = .str ⟨#[c]⟩ ∧ c < 128) → ∃ cs : List Nat, ys = (cs.map fun c => (⟨#[c]⟩ : Str)).map V.str ∧ cs.length = ys.length ∧ ∀ c ∈ cs, c < 128
  | [], _ => ⟨[], rfl, rfl, by simp⟩
  | y :: ys, h => by
    obtain ⟨c, rfl, hc⟩ := h y (by simp)
    obtain ⟨cs, e, l, a⟩ := signs_of (ys := ys) fun y hy => h y (by simp [hy])
    refine ⟨c :: cs, ?_, by simp [l], ?_⟩
    · rw [List.map_cons, List.map_cons, ← e]
    · intro d hd
      rcases List.mem_cons.mp hd with rfl | hd
      · exact hc
      · exact a d hd
theorem strs_of : ∀ {ys : List V} {n : Nat}, (∀ y ∈ ys, ∃ z : Str, y = .str z ∧ z.length ≤ n) → ∃ zs : List Str, ys = zs.map V.str ∧ zs.length = ys.length ∧ ∀ z ∈ zs, z.length ≤ n
  | [], _, _ => ⟨[], rfl, rfl, by simp⟩
  | y :: ys, n, h => by
    obtain ⟨c, rfl, hc⟩ := h y (by simp)
    obtain ⟨cs, e, l, a⟩ := strs_of (ys := ys) fun y hy => h y (by simp [hy])
    refine ⟨c :: cs, by rw [List.map_cons, ← e], by simp [l], ?_⟩
    intro z hz
    rcases List.mem_cons.mp hz with rfl | hz
    · exact hc
    · exact a z hz
theorem asc_app {a b : Str} (ha : asc a) (hb : asc b) : asc (a ++ b) := by
  intro c hc
  have e : (a ++ b).cps.toList = a.cps.toList ++ b.cps.toList := by
    show (a.cps ++ b.cps).toList = _
    rw [Array.toList_append]
  rw [e] at hc
  rcases List.mem_append.mp hc with h | h
  · exact ha c h
  · exact hb c h
theorem asc_cut {z : Str} {lo hi : Option Int} (h : asc z) : asc (cutS z lo hi) := by
  intro c hc
  have hc : c ∈ (z.cps.toList.drop (HT.sIx z.length 0 lo)).take (HT.sIx z.length z.length hi - HT.sIx z.length 0 lo) := by simpa [cutS] using hc
  exact h c (List.mem_of_mem_drop (List.mem_of_mem_take hc))
theorem asc_one {c : Nat} (h : c < 128) : asc ⟨#[c]⟩ := by
  intro d hd
  have : d = c := by simpa using hd
  omega
theorem cps_app (a b : Str) : (a ++ b).cps.toList = a.cps.toList ++ b.cps.toList := by
  show (a.cps ++ b.cps).toList = _
  rw [Array.toList_append]
theorem join_signs (cs : List Nat) : (Txt.join (Str.ofString "") (cs.map fun c => (⟨#[c]⟩ : Str))).cps.toList = cs := by
  rw [show Txt.join (Str.ofString "") (cs.map fun c => (⟨#[c]⟩ : Str)) = Str.join (Str.ofString "") (cs.map fun c => (⟨#[c]⟩ : Str)) from glued_eq_join _ _]
  induction cs with
  | nil => rfl
  | cons c cs ih =>
    cases cs with
    | nil => rfl
    | cons d cs =>
      show ((⟨#[c]⟩ : Str) ++ (Str.ofString "") ++ Str.join (Str.ofString "") ((d :: cs).map fun c => (⟨#[c]⟩ : Str))).cps.toList = _
      rw [cps_app, cps_app, ih]
      rfl
theorem ok_asc {z : Str} (h : asc z) : PyData.strOk z = true := by
  unfold PyData.strOk
  rw [← Array.all_toList, List.all_eq_true]
  intro c hc
  have := h c hc
  exact decide_eq_true (by omega)
theorem Nm.len {z : Str} (h : Nm z) : z.length ≤ 8 := h.2.1
end G


namespace G
open PySem PySem.Spec PyProof.Rows L2
theorem nodup_le {α : Type} [DecidableEq α] : ∀ (s l : List α), s.Nodup → (∀ x ∈ s, x ∈ l) → s.length ≤ l.length
  | [], _, _, _ => Nat.zero_le _
  | x :: s, l, nd, h => by
    have hx : x ∈ l := h x (by simp)
    have nd' := List.nodup_cons.mp nd
    have := nodup_le s (l.erase x) nd'.2 fun y hy => by
      refine (List.mem_erase_of_ne ?_).mpr (h y (by simp [hy]))
      rintro rfl
      exact nd'.1 hy
    rw [List.length_erase_of_mem hx] at this
    have := List.length_pos_of_mem hx
    simp
    omega
theorem pigeon {α : Type} [DecidableEq α] (f : Nat → α) (n : Nat) (l : List α) (inj : ∀ i j, i < n → j < n → f i = f j → i = j) (h : l.length < n) : ∃ i, i < n ∧ f i ∉ l := by
  refine Classical.byContradiction fun no => ?_
  have all : ∀ i, i < n → f i ∈ l := fun i hi => Classical.byContradiction fun z => no ⟨i, hi, z⟩
  have nd : ((List.range n).map f).Nodup := by
    rw [List.nodup_iff_pairwise_ne, List.pairwise_map]
    refine List.Pairwise.imp_of_mem ?_ List.nodup_range
    intro a b ha hb ne e
    exact ne (inj a b (List.mem_range.mp ha) (List.mem_range.mp hb) e)
  have := nodup_le _ l nd fun x hx => by
    obtain ⟨i, hi, rfl⟩ := List.mem_map.mp hx
    exact all i (List.mem_range.mp hi)
  simp at this
  omega
theorem tsS (j : Nat) (h : j < 8) : (Str.ofString (toString (j : Int))).length = 1 := by
  have : ∀ k : Fin 8, (Str.ofString (toString ((k.1 : Nat) : Int))).length = 1 := by decide +kernel
  exact this ⟨j, h⟩
theorem tsS_inj (i j : Nat) (hi : i < 8) (hj : j < 8) (e : Str.ofString (toString (i : Int)) = Str.ofString (toString (j : Int))) : i = j := by
  have : ∀ k l : Fin 8, Str.ofString (toString ((k.1 : Nat) : Int)) = Str.ofString (toString ((l.1 : Nat) : Int)) → k.1 = l.1 := by decide +kernel
  exact this ⟨i, hi⟩ ⟨j, hj⟩ e
theorem tsS_asc (j : Nat) (h : j < 8) : asc (Str.ofString (toString (j : Int))) := by
  have : ∀ k : Fin 8, asc (Str.ofString (toString ((k.1 : Nat) : Int))) := by decide +kernel
  exact this ⟨j, h⟩
theorem app_inj {a b c : Str} (h : a ++ b = a ++ c) : b = c := by
  have h : a.cps ++ b.cps = a.cps ++ c.cps := congrArg Str.cps h
  have h := congrArg Array.toList h
  rw [Array.toList_append, Array.toList_append] at h
  have h2 : b.cps.toList = c.cps.toList := List.append_cancel_left h
  exact Str.ext' (Array.toList_inj.mp h2)
theorem inV_strs {s : Str} {zs : List Str} : inV (.str s) (zs.map V.str) = decide (s ∈ zs) := by
  unfold inV
  rw [List.any_map, Bool.eq_iff_iff, List.any_eq_true, decide_eq_true_eq]
  constructor
  · rintro ⟨x, hx, e⟩
    have e : (x == s) = true := e
    rw [beq_iff_eq] at e
    rw [← e]
    exact hx
  · intro h
    exact ⟨s, h, by show (s == s) = true; simp⟩
theorem flat_strs {zs : List Str} : (zs.map V.str).all flatV = true := by
  rw [List.all_map, List.all_eq_true]
  intro x _
  rfl
theorem small_log {j : Int} (h0 : 0 ≤ j) (h : j < 1000) : j.natAbs.log2 < 1920 := by
  have := Nat.log2_le_self j.natAbs
  omega
/-- a filter -/
theorem lcF {σ : L2.St} {H : Hp} {Q : VK} {tt : TT} {vs : List Nat} {n : Nat} {J : It} {xs : List V} {G : Hp → Prop} (w : Walk J xs.length G (YAt xs)) (b : V → Bool) (hG : ∀ H1, Same H H1 → G H1) (hl : xs.length ≤ 1000000)
    (hw : ∀ v : V, wipe ((wipe σ vs).set n (some v)) vs = wipe σ vs) (hv : ∀ v : V, ((wipe σ vs).set n (some v))[n]? = some (some v))
    (hs : ∀ x H1 (Q1 : Bool → Hp → Prop), x ∈ xs → Same H H1 → (∀ H2, Same H1 H2 → Q1 (b x) H2) → tt ((wipe σ vs).set n (some x)) H1 Q1)
    (h : ∀ D H', H D = none → Same H H' → H' D = some (.lst (xs.filter b)) → Q (.ref D) H') : LC J (gName n) tt (tVar n) vs σ Q H := by
  intro D hD
  refine lc_it w (fun i H1 => Same H H1 ∧ H1 D = some (.lst ((xs.take i).filter b))) ⟨?_, upd_same⟩ (fun i H1 _ q => hG H1 q.1) ?_ ?_
  · intro a o e
    rw [upd_ne (ne_of_none e hD)]
    exact e
  · rintro i x H1 H2 hi ⟨r, hd⟩ ⟨rfl, hx⟩
    have et : xs.take (i + 1) = xs.take i ++ [x] := by rw [List.take_add_one, hx]; rfl
    refine ⟨hw x, hs x H2 _ (List.mem_of_getElem? hx) r fun H3 r3 => ?_⟩
    refine ite_b (fun e => ?_) (fun e => ?_)
    · refine ⟨x, hv x, _, r3 _ _ hd, ?_, ?_, ?_⟩
      · have := List.length_filter_le b (xs.take i)
        rw [List.length_take] at this
        exact sz2 (by omega)
      · intro a o ea
        rw [upd_ne (ne_of_none ea hD)]
        exact r3 _ _ (r _ _ ea)
      · rw [upd_same, et, List.filter_append, List.filter_cons, if_pos e, List.filter_nil]
    · refine ⟨r.trans r3, ?_⟩
      rw [r3 _ _ hd, et, List.filter_append, List.filter_cons, if_neg (by rw [e]; exact Bool.false_ne_true), List.filter_nil, List.append_nil]
  · rintro H1 ⟨r, hd⟩
    rw [List.take_length] at hd
    exact h D H1 hD r hd
theorem nAl {H Hk : Hp} {q : Addr} (r : Same H Hk) (h : Hk q = none) : ¬ Al H q := fun z => z (r.free h)
theorem nAlR {M : List Addr} {H Hk : Hp} {q : Addr} (r : Rx M H Hk) (n : q ∉ M) (h : Hk q = none) : ¬ Al H q := fun z => z (r.free n h)
theorem Rx.freeD {p q : Addr} {H Hk : Hp} (r : Rx [p] H Hk) (d : Dr p Hk) (h : Hk q = none) : H q = none := r.free (by simpa using d.ne h) h
theorem nAlD {p q : Addr} {H Hk : Hp} (r : Rx [p] H Hk) (d : Dr p Hk) (h : Hk q = none) : ¬ Al H q := fun z => z (r.freeD d h)
/-- {text: v} -/
theorem s_disp1 {σ : L2.St} {H : Hp} {Q : VK} {i : Nat} {z : Str} {v : V} (e : σ[i]? = some (some (.str z))) (h : ∀ p H', H p = none → Same H H' → H' p = some (.dK [(Sum.inr z, v)]) → Q (.ref p) H') : tDisp [(tVar i, tC v)] σ H Q := by
  intro p hp
  refine ⟨_, e, upd_same, [(Sum.inr z, v)], rfl, by simp, ?_⟩
  have e2 : mergeK [] [((Sum.inr z : Key), v)] = [(Sum.inr z, v)] := rfl
  rw [e2]
  refine h p _ hp ?_ upd_same
  intro a o ea
  rw [upd_ne (ne_of_none ea hp), upd_ne (ne_of_none ea hp)]
  exact ea
theorem dp_strs {K : PySem.W.Frag} {H : Hp} : ∀ {zs : List Str}, DpAll K H (zs.map V.str) (zs.map PyData.str)
  | [] => .nil
  | z :: zs => .cons (.str z) dp_strs
/-- ways that meet behind a statement -/
theorem s_seqJ {t u : TS} {D : Ends} {σ : L2.St} {H : Hp} (Pj : L2.St → Hp → Prop) (hu : ∀ σ' H', Pj σ' H' → u D σ' H') (ht : ∀ N : L2.St → Hp → Prop, (∀ σ' H', Pj σ' H' → N σ' H') → t { D with nx := N } σ H) : tSeq t u D σ H := ht (u D) hu
theorem s_seqIf {tt : TT} {t u v : TS} {D : Ends} {σ : L2.St} {H : Hp} (h : tSeq (tIfS tt t u) v D σ H) : tSeq (tIfS tt t u) v D σ H := h
theorem canLay_strs : ∀ {zs : List Str}, (∀ z ∈ zs, asc z) → PyData.canLayAll0 (zs.map PyData.str) = true ∧ PyData.depthAll (zs.map PyData.str) = 0
  | [], _ => ⟨rfl, rfl⟩
  | z :: zs, h => by
    obtain ⟨a, b⟩ := canLay_strs (zs := zs) fun y hy => h y (by simp [hy])
    constructor
    · show (PyData.strOk z && PyData.canLayAll0 (zs.map PyData.str)) = true
      rw [ok_asc (h z (by simp)), a]
      rfl
    · show max 0 (PyData.depthAll (zs.map PyData.str)) = 0
      rw [b]
      rfl
theorem shaped_strs {zs : List Str} (h : ∀ z ∈ zs, asc z) : SeqAt.shaped (.list (zs.map PyData.str)) = true := by
  obtain ⟨a, b⟩ := canLay_strs h
  show (PyData.canLayAll0 (zs.map PyData.str) && decide (PyData.depthAll (zs.map PyData.str) + 1 ≤ 64)) = true
  rw [a, b]
  rfl
end G


namespace G
open PySem PySem.Spec PyProof.Rows L2
/-- a fact that no search is to find -/
structure Hide (P : Prop) : Prop where
  get : P
/-- a new pair of a short text and an int -/
def Pr (A : Addr → Prop) (v : V) (H : Hp) : Prop := ∃ (q : Addr) (z : Str) (i : Int), v = .ref q ∧ ¬ A q ∧ H q = some (.tup [.str z, .int i]) ∧ z.length ≤ 8
theorem Ft.pr : Ft Pr := by
  constructor
  · rintro A A' v H r ⟨q, z, i, e, n, h, l⟩
    exact ⟨q, z, i, e, fun a => n (r _ a), h, l⟩
  · rintro A v H1 H2 r ⟨q, z, i, e, n, h, l⟩
    exact ⟨q, z, i, e, n, r _ _ n h, l⟩
theorem Th.str {A : Addr → Prop} {H : Hp} {z : Str} (h : z.length ≤ 100) : ∀ {n : Nat}, Th A H n (.str z)
  | 0 => h
  | _ + 1 => h
theorem Th.int {A : Addr → Prop} {H : Hp} {i : Int} : ∀ {n : Nat}, Th A H n (.int i)
  | 0 => trivial
  | _ + 1 => trivial
theorem Th.bl {A : Addr → Prop} {H : Hp} {i : Bool} : ∀ {n : Nat}, Th A H n (.bl i)
  | 0 => trivial
  | _ + 1 => trivial
theorem Th.non {A : Addr → Prop} {H : Hp} : ∀ {n : Nat}, Th A H n .non
  | 0 => trivial
  | _ + 1 => trivial
theorem th_tup {A : Addr → Prop} {H : Hp} {n : Nat} {t : Addr} {xs : List V} (a : ¬ A t) (h : H t = some (.tup xs)) (l : xs.length ≤ 100) (k : ∀ x ∈ xs, Th A H n x) : Th A H (n + 1) (.ref t) :=
  ⟨a, .inr (.inr ⟨xs, h, l, k⟩)⟩
theorem th_lst {A : Addr → Prop} {H : Hp} : ∀ {n : Nat} {t : Addr} {xs : List V}, ¬ A t → H t = some (.lst xs) → Th A H n (.ref t)
  | 0, _, xs, a, h => ⟨a, .inl ⟨xs, h⟩⟩
  | _ + 1, _, xs, a, h => ⟨a, .inl ⟨xs, h⟩⟩
theorem Pr.th {A : Addr → Prop} {H : Hp} {v : V} (h : Pr A v H) : Th A H 1 v := by
  obtain ⟨q, z, i, rfl, n, h, l⟩ := h
  refine th_tup n h (by simp) ?_
  intro x hx
  have : x = .str z ∨ x = .int i := by simpa using hx
  rcases this with rfl | rfl
  · exact Th.str (by omega)
  · exact Th.int
theorem s_sortS {K : PySem.W.Frag} {H : Hp} {Q : VK} {a : Addr} {xs : List Str} (c : SqL K H a (xs.map V.str)) (l : xs.length < 64)
    (h : ∀ (ys : List Str) p H', ys.Perm xs → sortedS ys = true → H p = none → Same H H' → H' p = some (.lst (ys.map V.str)) → Q (.ref p) H') : rSortedS K [.ref a] H Q :=
  ⟨a, xs, rfl, c, l, fun ys p pe so => s_new (P := fun p H' => Q (.ref p) H') (fun p H' hp r e => h ys p H' pe so hp r e) p⟩
theorem Al.mono {p : Addr} {H H' : Hp} (r : Rx [p] H H') (d : Dr p H') : ∀ a, Al H a → Al H' a := by
  intro a h
  by_cases e : a = p
  · subst e
    exact d.al
  · unfold Al at h ⊢
    cases q : H a with
    | none => exact (h q).elim
    | some o =>
      rw [r a o (by simpa using e) q]
      exact Option.some_ne_none _
theorem cutV_mem {xs : List V} {lo hi : Option Int} {x : V} (h : x ∈ cutV xs lo hi) : x ∈ xs := List.mem_of_mem_drop (List.mem_of_mem_take h)
theorem valsV_stab {H H' : Hp} {A : Addr → Prop} {v : V} (r : Same H H') (t : Th A H 2 v) : valsV H' v = valsV H v := by
  have e := tupOf_stab (Same.ag (A := A) r) t
  cases q : tupOf H v with
  | none => rw [valsV_none q, valsV_none (by rw [e]; exact q)]
  | some xs =>
    obtain ⟨a, rfl, ha⟩ := tupOf_at q
    obtain ⟨_, hx⟩ := t.tup ha
    have e1 : ∀ x ∈ xs, pairV H' x = pairV H x := fun x m => pairV_stab r (hx x m)
    have e2 : ∀ x ∈ xs, keyV H' x = keyV H x := fun x m => by
      unfold keyV
      rw [tupOf_stab (Same.ag (A := A) r) (hx x m)]
    rw [valsV_some q, valsV_some (by rw [e]; exact q)]
    have h1 : xs.all (pairV H') = xs.all (pairV H) := by
      rw [Bool.eq_iff_iff, List.all_eq_true, List.all_eq_true]
      exact ⟨fun h x m => (e1 x m) ▸ h x m, fun h x m => (e1 x m).symm ▸ h x m⟩
    have h2 : xs.map (keyV H') = xs.map (keyV H) := List.map_congr_left e2
    rw [h1, h2]
/-- repr of a list of bools -/
def bsD (bs : List Bool) : PyData := .list (bs.map PyData.bool)
theorem dp_bls {K : PySem.W.Frag} {H : Hp} : ∀ {bs : List Bool}, DpAll K H (bs.map V.bl) (bs.map PyData.bool)
  | [] => .nil
  | b :: bs => .cons (.bl b) dp_bls
theorem s_reprB {K : PySem.W.Frag} {H : Hp} {Q : VK} {a : Addr} {b1 b2 b3 b4 b5 b6 : Bool} (c : H a = some (.lst [.bl b1, .bl b2, .bl b3, .bl b4, .bl b5, .bl b6])) (h : Q (.str (bsD [b1, b2, b3, b4, b5, b6]).shown) H) : rRepr K [.ref a] H Q := by
  refine ⟨a, bsD [b1, b2, b3, b4, b5, b6], rfl, .lst (SqL.of c) (dp_bls (bs := [b1, b2, b3, b4, b5, b6])), rfl, rfl, by simp [bsD, PyData.depth, PyData.depthAll], sz1 ?_, h⟩
  cases b1 <;> cases b2 <;> cases b3 <;> cases b4 <;> cases b5 <;> cases b6 <;> decide +kernel
theorem mulOk_a9 : MulOk "a" 9 := ⟨by decide, fun _ _ => by decide +kernel, fun _ _ => by decide +kernel⟩
theorem has_fg {P : Program} {w : World} {K : PySem.W.Frag} {mg : Str → Option Value} {base : Heap} {CX : CXT} {x : Str} {st : Stmt} {ps : List Str} {k : Nat} {sp : Sp} {f : Addr} {fd : FuncData}
    (F : Fun K x x st f fd) (hm : mg x = some (.ref f)) (h : Has P w K mg base CX x st ps k sp) : Fg P w K mg base CX k f fd ps sp := by
  obtain ⟨f', fd', h⟩ := h
  have e := h.at_.symm.trans hm
  cases e
  obtain ⟨_, _, _, _, _, _, _, _, _, _, l1, _⟩ := F.ex
  obtain ⟨_, _, _, _, _, _, _, _, _, _, l2, _⟩ := h.fn.ex
  rw [l1] at l2
  cases l2
  exact h.ok
end G


namespace K01
open PySem L2 G

local macro_rules | `(tactic| walk_at "ne") => `(tactic| first
  | assumption | (apply Ne.symm; assumption)
  | (simp only [List.mem_cons, List.mem_nil_iff, List.not_mem_nil, or_false, not_or, ne_eq, not_false_eq_true, and_true]; first | assumption | (apply Ne.symm; assumption) | (refine And.intro ?_ ?_ <;> first | assumption | (apply Ne.symm; assumption)))
  | exact List.not_mem_nil)
local macro_rules | `(tactic| walk_at "hp") => `(tactic| first
  | assumption | exact upd_same
  | (refine (by assumption : Same _ _) _ _ ?_; walk_at "hp")
  | (refine (by assumption : Rx _ _ _) _ _ (by walk_at "ne") ?_; walk_at "hp"))
local macro_rules | `(tactic| walk_at "rx") => `(tactic| first
  | assumption | exact Rx.refl _ | exact Rx.same (by assumption)
  | (refine Rx.trans ?_ (by assumption); walk_at "rx")
  | (refine Rx.trans ?_ (Rx.same (by assumption)); walk_at "rx"))
local macro_rules | `(tactic| walk_at "sm") => `(tactic| first
  | assumption | exact Same.refl _ | (refine Same.trans ?_ (by assumption); walk_at "sm"))
local macro_rules | `(tactic| walk_at "dr") => `(tactic| first
  | assumption | (refine Dr.same (by assumption) ?_; walk_at "dr"))
local macro_rules | `(tactic| walk_at "sq") => `(tactic| first
  | assumption
  | exact SqL.of (by walk_at "hp") | exact SqT.of (by walk_at "hp"))
local macro_rules | `(tactic| walk_at "side") => `(tactic| first
  | assumption | rfl | decide | omega | (show (0 : Int) < _; omega) | (exact And.intro (by omega) (by omega))
  | (unfold CMul; omega) | (unfold CDiv; omega) | (unfold CPow; decide) | (exact sz1 (by omega)) | (exact sz1 (by simp only [len_app]; omega)) | (exact sz1 (by simp; done)) | (exact sz1 (by simp; omega)))
local macro_rules | `(tactic| walk_at "go1") => `(tactic| first
  | with_reducible refine s_seq ?_
  | with_reducible refine s_next ?_
  | with_reducible refine s_asg ?_
  | with_reducible refine s_par ?_
  | with_reducible refine s_ret ?_
  | with_reducible refine s_retN ?_
  | with_reducible refine s_if ?_
  | with_reducible refine s_drop ?_
  | with_reducible refine s_gn ?_
  | with_reducible refine s_gsub ?_
  | with_reducible refine s_c ?_
  | with_reducible refine s_op ?_
  | with_reducible refine s_un ?_
  | with_reducible refine s_test ?_
  | with_reducible refine s_tB ?_
  | with_reducible refine s_and ?_
  | with_reducible refine s_or ?_
  | with_reducible refine s_not ?_
  | with_reducible refine s_andV ?_
  | with_reducible refine s_orV ?_
  | with_reducible refine s_notV ?_
  | with_reducible refine s_ifE ?_
  | with_reducible refine s_chain ?_
  | with_reducible refine s_nil ?_
  | with_reducible refine s_cons ?_
  | with_reducible refine s_cb ?_
  | with_reducible refine s_call ?_
  | with_reducible refine s_callZ ?_
  | with_reducible refine s_lst' ?_
  | with_reducible refine s_tup' ?_
  | with_reducible refine s_I0 ?_
  | with_reducible refine s_U ?_
  | with_reducible refine s_int1 ?_
  | with_reducible refine s_abs ?_
  | with_reducible refine s_max2 ?_
  | with_reducible refine s_min2 ?_
  | with_reducible refine s_ltS ?_
  | with_reducible refine s_sign ?_
  | with_reducible refine s_sl ?_
  | with_reducible refine s_noP ?_
  | with_reducible refine s_part ?_
  | with_reducible refine s_revL ?_
  | with_reducible refine s_lc ?_
  | with_reducible refine s_fr ?_
  | with_reducible refine s_iStr ?_
  | with_reducible refine s_iLst ?_
  | with_reducible refine s_iTup ?_
  | with_reducible refine s_iR1 ?_
  | with_reducible refine s_yes ?_
  | with_reducible refine s_dnew ?_
  | with_reducible refine s_bm ?_
  | with_reducible refine s_m1 ?_
  | with_reducible refine s_isStr ?_
  | ((with_reducible refine' s_var ?ga ?_); (case ga => rfl))
  | ((with_reducible refine' s_I ?ga ?_); (case ga => walk_at "side"))
  | ((with_reducible refine' s_eq ?ga ?_); (case ga => first | rfl | assumption))
  | ((with_reducible refine' s_ne ?ga ?_); (case ga => first | rfl | assumption))
  | ((with_reducible refine' s_ixL ?ga ?gb ?_); (case ga => walk_at "sq"); (case gb => first | rfl | assumption))
  | ((with_reducible refine' s_ixT ?ga ?gb ?_); (case ga => walk_at "sq"); (case gb => first | rfl | assumption))
  | ((with_reducible refine' s_setL ?ga ?gb ?_); (case ga => walk_at "hp"); (case gb => first | rfl | assumption))
  | ((with_reducible refine' s_lenL ?ga ?_); (case ga => walk_at "sq"))
  | ((with_reducible refine' s_lenT ?ga ?_); (case ga => walk_at "sq"))
  | ((with_reducible refine' s_lenS ?ga ?_); (case ga => walk_at "side"))
  | ((with_reducible refine' s_addS ?ga ?_); (case ga => walk_at "side"))
  | ((with_reducible refine' s_slS ?ga ?_); (case ga => walk_at "side"))
  | ((with_reducible refine' s_ixS ?ga ?gb ?_); (case ga => walk_at "side"); (case gb => first | rfl | assumption))
  | ((with_reducible refine' s_sz ?ga ?_); (case ga => walk_at "side"))
  | ((with_reducible refine' s_tyL ?ga ?_); (case ga => walk_at "sq"))
  | ((with_reducible refine' s_app ?ga ?gb ?_); (case ga => walk_at "hp"); (case gb => exact sz2 (by first | omega | (simp; omega) | (simp; done))))
  | ((with_reducible refine' s_exL ?ga ?_); (case ga => walk_at "sq"))
  | ((with_reducible refine' s_exT ?ga ?_); (case ga => walk_at "sq"))
  | ((with_reducible refine' s_bd ?ga ?gb ?_); (case ga => omega); (case gb => omega))
  | ((with_reducible refine' s_isiS ?ga ?_); (case ga => assumption))
  | ((with_reducible refine' s_isiI ?ga ?_); (case ga => assumption))
  | ((with_reducible refine' s_isiB ?ga ?_); (case ga => assumption))
  | ((with_reducible refine' s_isiT ?ga ?_); (case ga => assumption))
  | (with_reducible refine ⟨_, rfl, ?_⟩)
  | (with_reducible refine ⟨_, _, rfl, ?_⟩)
  | (with_reducible refine L2.iteT ?_)
  | (with_reducible refine L2.iteF ?_)
  | (with_reducible refine ite_nf ?_)
  | (with_reducible refine ite_nt ?_))
local macro_rules | `(tactic| walk_at "go") => `(tactic| (repeat walk_at "go1"))
local macro_rules | `(tactic| walk_at "gos") => `(tactic| (repeat ((fail_if_success (with_reducible refine s_seqIf ?_)); walk_at "go1")))
def topS (i : Nat) : Stmt := PySem.Challenge.pw_blockmoves_k01_names_symbols_values.main.body.getD i (.Pass ⟨0, 0, 0, 0⟩)
abbrev s_is_integer : Stmt := topS 6
abbrev N_is_integer : List Str := ["value"]
theorem sc_is_integer : FnScope N_is_integer ["value"] (defScope s_is_integer) := ⟨rfl, rfl, rfl, by decide +kernel, rfl, by decide +kernel, by decide +kernel⟩
abbrev s_is_name : Stmt := topS 7
abbrev N_is_name : List Str := ["value", "sign"]
theorem sc_is_name : FnScope N_is_name ["value"] (defScope s_is_name) := ⟨rfl, rfl, rfl, by decide +kernel, rfl, by decide +kernel, by decide +kernel⟩
abbrev s_is_symbol : Stmt := topS 8
abbrev N_is_symbol : List Str := ["value"]
theorem sc_is_symbol : FnScope N_is_symbol ["value"] (defScope s_is_symbol) := ⟨rfl, rfl, rfl, by decide +kernel, rfl, by decide +kernel, by decide +kernel⟩
abbrev s_is_pair : Stmt := topS 9
abbrev N_is_pair : List Str := ["value"]
theorem sc_is_pair : FnScope N_is_pair ["value"] (defScope s_is_pair) := ⟨rfl, rfl, rfl, by decide +kernel, rfl, by decide +kernel, by decide +kernel⟩
abbrev s_is_values : Stmt := topS 10
abbrev N_is_values : List Str := ["value", "pair", "at"]
theorem sc_is_values : FnScope N_is_values ["value"] (defScope s_is_values) := ⟨rfl, rfl, rfl, by decide +kernel, rfl, by decide +kernel, by decide +kernel⟩
abbrev s__law_cell : Stmt := topS 12
abbrev N__law_cell : List Str := ["_law_script", "_law_k", "_law_mixed", "_law_number"]
theorem sc__law_cell : FnScope N__law_cell ["_law_script", "_law_k"] (defScope s__law_cell) := ⟨rfl, rfl, rfl, by decide +kernel, rfl, by decide +kernel, by decide +kernel⟩
abbrev s__law_heap : Stmt := topS 13
abbrev N__law_heap : List Str := ["_law_number", "_law_digits"]
theorem sc__law_heap : FnScope N__law_heap ["_law_number"] (defScope s__law_heap) := ⟨rfl, rfl, rfl, by decide +kernel, rfl, by decide +kernel, by decide +kernel⟩
abbrev s__law_roll : Stmt := topS 14
abbrev N__law_roll : List Str := ["_law_heap_here", "_law_many", "_law_digit", "_law_state"]
theorem sc__law_roll : FnScope N__law_roll ["_law_heap_here", "_law_many"] (defScope s__law_roll) := ⟨rfl, rfl, rfl, by decide +kernel, rfl, by decide +kernel, by decide +kernel⟩
abbrev s__law_pick : Stmt := topS 15
abbrev N__law_pick : List Str := ["_law_heap_here", "_law_things"]
theorem sc__law_pick : FnScope N__law_pick ["_law_heap_here", "_law_things"] (defScope s__law_pick) := ⟨rfl, rfl, rfl, by decide +kernel, rfl, by decide +kernel, by decide +kernel⟩
abbrev s__law_name : Stmt := topS 16
abbrev N__law_name : List Str := ["_law_heap_here", "_law_words", "_law_way", "_law_letters", "_law_more", "_law_name_here", "_law_k"]
theorem sc__law_name : FnScope N__law_name ["_law_heap_here"] (defScope s__law_name) := ⟨rfl, rfl, rfl, by decide +kernel, rfl, by decide +kernel, by decide +kernel⟩
abbrev s__law_names : Stmt := topS 17
abbrev N__law_names : List Str := ["_law_heap_here", "_law_many", "_law_found", "_law_k", "_law_name_here", "_law_menu", "_law_j", "_law_each"]
theorem sc__law_names : FnScope N__law_names ["_law_heap_here", "_law_many"] (defScope s__law_names) := ⟨rfl, rfl, rfl, by decide +kernel, rfl, by decide +kernel, by decide +kernel⟩
abbrev s__law_bent : Stmt := topS 18
abbrev N__law_bent : List Str := ["_law_heap_here", "_law_word", "_law_way", "_law_at", "_law_sign"]
theorem sc__law_bent : FnScope N__law_bent ["_law_heap_here", "_law_word"] (defScope s__law_bent) := ⟨rfl, rfl, rfl, by decide +kernel, rfl, by decide +kernel, by decide +kernel⟩
abbrev s__law_is_name : Stmt := topS 19
abbrev N__law_is_name : List Str := ["_law_thing", "_law_small", "_law_sign"]
theorem sc__law_is_name : FnScope N__law_is_name ["_law_thing"] (defScope s__law_is_name) := ⟨rfl, rfl, rfl, by decide +kernel, rfl, by decide +kernel, by decide +kernel⟩
abbrev s__law_is_symbol : Stmt := topS 20
abbrev N__law_is_symbol : List Str := ["_law_thing"]
theorem sc__law_is_symbol : FnScope N__law_is_symbol ["_law_thing"] (defScope s__law_is_symbol) := ⟨rfl, rfl, rfl, by decide +kernel, rfl, by decide +kernel, by decide +kernel⟩
abbrev s__law_is_values : Stmt := topS 21
abbrev N__law_is_values : List Str := ["_law_thing", "_law_last", "_law_pair"]
theorem sc__law_is_values : FnScope N__law_is_values ["_law_thing"] (defScope s__law_is_values) := ⟨rfl, rfl, rfl, by decide +kernel, rfl, by decide +kernel, by decide +kernel⟩
abbrev s__law_pairs : Stmt := topS 22
abbrev N__law_pairs : List Str := ["_law_heap_here", "_law_names_here", "_law_numbers", "_law_pairs_here", "_law_way", "_law_at", "_law_name_here", "_law_odd_here"]
theorem sc__law_pairs : FnScope N__law_pairs ["_law_heap_here", "_law_names_here"] (defScope s__law_pairs) := ⟨rfl, rfl, rfl, by decide +kernel, rfl, by decide +kernel, by decide +kernel⟩
abbrev s__law_odd : Stmt := topS 23
abbrev N__law_odd : List Str := ["_law_heap_here", "_law_word", "_law_menu"]
theorem sc__law_odd : FnScope N__law_odd ["_law_heap_here", "_law_word"] (defScope s__law_odd) := ⟨rfl, rfl, rfl, by decide +kernel, rfl, by decide +kernel, by decide +kernel⟩
abbrev s__law_right : Stmt := topS 24
abbrev N__law_right : List Str := ["_law_heap_here", "_law_names_here", "_law_things", "_law_thing", "_law_told", "_law_due", "_law_name_here", "_law_turn"]
theorem sc__law_right : FnScope N__law_right ["_law_heap_here"] (defScope s__law_right) := ⟨rfl, rfl, rfl, by decide +kernel, rfl, by decide +kernel, by decide +kernel⟩
abbrev s_law : Stmt := topS 25
abbrev N_law : List Str := ["_law_script", "_law_k", "_law_heap_here", "_law_turn"]
theorem sc_law : FnScope N_law ["_law_script"] (defScope s_law) := ⟨rfl, rfl, rfl, by decide +kernel, rfl, by decide +kernel, by decide +kernel⟩
structure Txt (mg : Str → Option Value) : Prop where
  b_len : mg "len" = none
  b_isinstance : mg "isinstance" = none
  b_str : mg "str" = none
  b_int : mg "int" = none
  b_tuple : mg "tuple" = none
  b_bool : mg "bool" = none
  b_range : mg "range" = none
  b_all : mg "all" = none
  b_sorted : mg "sorted" = none
  b_abs : mg "abs" = none
  b_max : mg "max" = none
  b_min : mg "min" = none
  b_repr : mg "repr" = none
  c_LETTERS : ∃ t, mg "LETTERS" = some (.str "abcdefghijklmnopqrstuvwxyz" t)
  c_DIGITS : ∃ t, mg "DIGITS" = some (.str "0123456789" t)
  c_MAX_LENGTH : ∃ t, mg "MAX_LENGTH" = some (.int 8 t)
  c_CELL : ∃ t, mg "CELL" = some (.str "@" t)
  c_VIEW : ∃ t, mg "VIEW" = some (.str "view" t)
section
variable {P : Program} {w : World} {K : PySem.W.Frag} {mg : Str → Option Value} {base : Heap}
theorem ok_is_integer (T : Txt mg) (D : At K mg "is_integer" s_is_integer) :
    Has P w K mg base CX0 "is_integer" s_is_integer ["value"] 1 (spAsk 0 fun _ v => isI v) := by
  have nd := sc_is_integer.nd
  refine has_mk D sc_is_integer (fun vs H Q E h => ?len) (fun _ _ _ _ _ _ us hl => match us, hl with | [_], _ => rfl) (fun f cdv A outer s H vs Q E hr hgd h => ?bd)
  case len =>
    obtain ⟨v, Av, rfl, _⟩ := h
    rfl
  case bd =>
    obtain ⟨v, Av, rfl, t, k⟩ := h
    refine ⟨_, (pss_one (ps_ret (pe_and (pe_callB (isiK K) rfl T.b_isinstance (by decide +kernel) (pa_cons (pv 0) (pa_cons (pe_bltn (v := .ty "int") rfl T.b_int (by decide +kernel) rfl) pa_nil))) (pe_one (pe_not (pe_callB (isiK K) rfl T.b_isinstance (by decide +kernel) (pa_cons (pv 0) (pa_cons (pe_bltn (v := .ty "bool") rfl T.b_bool (by decide +kernel) rfl) pa_nil)))))))), ?_⟩
    walk_at "go"
    refine ite_b (fun e => ?_) (fun e => ?_)
    · walk_at "go"
      exact rtb (k _ (Same.refl _)) (by cases v <;> first | rfl | (simp [isI, isB] at e))
    · exact rtb (k _ (Same.refl _)) (by cases v <;> first | rfl | (simp [isI, isB] at e))

theorem ok_is_name (T : Txt mg) (D : At K mg "is_name" s_is_name) :
    Has P w K mg base CX0 "is_name" s_is_name ["value"] 1 (spAsk 0 fun _ v => nameV v) := by
  have nd := sc_is_name.nd
  refine has_mk D sc_is_name (fun vs H Q E h => ?len) (fun _ _ _ _ _ _ us hl => match us, hl with | [_], _ => rfl) (fun f cdv A outer s H vs Q E hr hgd h => ?bd)
  case len =>
    obtain ⟨v, Av, rfl, _⟩ := h
    rfl
  case bd =>
    obtain ⟨v, Av, rfl, t, k⟩ := h
    refine ⟨_, (pss_cons (ps_if (PW.pt (pw_or (pt_not (pt_val (pe_callB (isiK K) rfl T.b_isinstance (by decide +kernel) (pa_cons (pv 0) (pa_cons (pe_bltn (v := .ty "str") rfl T.b_str (by decide +kernel) rfl) pa_nil))))) (pw_or (pt_not (pt_chain op_le op_le pe_int (pe_callB (lenK K) rfl T.b_len (by decide +kernel) (pa_cons (pv 0) pa_nil)) (pe_gI rfl T.c_MAX_LENGTH))) (pw_or1 (pt_cmpR op_eq (pv 0) (pe_gS rfl T.c_VIEW) (nomark _)))))) (pss_one (ps_ret pe_bl)) pss_nil)
      (pss_one (ps_ret (pe_and (pe_cmpR o_sign (pe_ix ix_str (pv 0) pe_int (fun _ _ => rfl)) (pe_gS rfl T.c_LETTERS) rfl) (pe_one (pe_callB (allK K) rfl T.b_all (by decide +kernel) (pa_cons (pe_lc (own := [("sign", 1)]) (g := gName 1) (tt := tYes) rfl nd (pi_str (pv 0)) (blkOk_by (N := N_is_name) (sc := defScope s_is_name) (own := [("sign", 1)]) (by decide +kernel)) (fun _ _ _ _ _ => (pg_name (i := 1) nd rfl (Or.inl rfl))) (fun _ _ _ _ _ => pts_nil) (fun _ _ _ _ _ => (pe_cmpR o_sign (pv 1) (pe_op o_addS (pe_gS rfl T.c_LETTERS) (pe_gS rfl T.c_DIGITS)) rfl))) pa_nil))))))), ?_⟩
    cases hs : isS v with
    | false =>
      walk_at "go"
      refine ite_t (by rw [hs]; rfl) ?_
      walk_at "go"
      exact rtb (k _ (Same.refl _)) (by cases v <;> first | rfl | cases hs)
    | true =>
      obtain ⟨z, rfl⟩ := isS_str hs
      have hz : z.length ≤ 100 := t
      have k0 : ∀ {b : Bool} {H' : Hp}, nameS z = b → Same H H' → Q (.bl b) H' := fun e r => rtb (k _ r) e.symm
      walk_at "go"
      refine ite_f rfl ?_
      walk_at "go"
      refine ite_b (fun e1 => ?_) (fun e1 => ?_)
      · walk_at "go"
        refine ite_b (fun e2 => ?_) (fun e2 => ?_)
        · walk_at "go"
          exact k0 (by simp at e2; simp [nameS]; omega) (Same.refl _)
        · walk_at "go"
          refine ite_b (fun e3 => ?_) (fun e3 => ?_)
          · walk_at "go"
            exact k0 (by simp at e3; simp [nameS, e3]) (Same.refl _)
          · walk_at "go"
            obtain ⟨c, cs, hc⟩ := cons_of_len (z := z) (by simp at e1; omega)
            refine s_ixS (c := c) (sz1 (by omega)) (by rw [hc]; exact atI_0) ?_
            walk_at "go"
            refine ite_b (fun e4 => ?_) (fun e4 => ?_)
            · walk_at "go"
              refine lcP wx_str (sgV (letS ++ digS)) (fun _ _ => trivial) (by rw [strV_len]; omega) ?_ gm_name ?_
              · intro x H1 Q1 hx r q
                obtain ⟨c', rfl⟩ := mem_strV hx
                refine ⟨rfl, ?_⟩
                walk_at "go"
                exact q _ (Same.refl _)
              · intro D H' hD r hd
                walk_at "go"
                rw [sgV_map] at hd
                refine s_all hd ?_
                refine k0 ?_ r
                simp at e1 e2 e3 e4
                simp [nameS, e3, hc]
                intro _ _
                exact ⟨⟨by omega, by omega⟩, e4⟩
            · walk_at "go"
              exact k0 (by simp at e4; simp [nameS, hc]; intros; simp_all [letS]) (Same.refl _)
      · walk_at "go"
        exact k0 (by simp at e1; simp [nameS]; omega) (Same.refl _)

theorem ok_is_symbol (T : Txt mg) (D : At K mg "is_symbol" s_is_symbol) (h_is_name : Has P w K mg base CX0 "is_name" s_is_name ["value"] 1 (spAsk 0 fun _ v => nameV v)) :
    Has P w K mg base CX0 "is_symbol" s_is_symbol ["value"] 2 (spAsk 0 fun _ v => symV v) := by
  have nd := sc_is_symbol.nd
  refine has_mk D sc_is_symbol (fun vs H Q E h => ?len) (fun _ _ _ _ _ _ us hl => match us, hl with | [_], _ => rfl) (fun f cdv A outer s H vs Q E hr hgd h => ?bd)
  case len =>
    obtain ⟨v, Av, rfl, _⟩ := h
    rfl
  case bd =>
    obtain ⟨v, Av, rfl, t, k⟩ := h
    refine ⟨_, (pss_one (ps_ret (pe_and (pe_callB (isiK K) rfl T.b_isinstance (by decide +kernel) (pa_cons (pv 0) (pa_cons (pe_bltn (v := .ty "str") rfl T.b_str (by decide +kernel) rfl) pa_nil))) (pe_one (pe_or (pe_cmpR op_eq (pv 0) (pe_gS rfl T.c_CELL) (nomark _)) (pe_one (peH h_is_name (hr.mono (by decide)) hgd rfl (pa_cons (pv 0) pa_nil)))))))), ?_⟩
    cases hs : isS v with
    | false =>
      walk_at "go"
      refine ite_f hs ?_
      exact rtb (k _ (Same.refl _)) (by cases v <;> first | rfl | cases hs)
    | true =>
      obtain ⟨z, rfl⟩ := isS_str hs
      walk_at "go"
      refine ite_t rfl ?_
      walk_at "go"
      refine ite_b (fun e => ?_) (fun e => ?_)
      · exact rtb (k _ (Same.refl _)) (by simp [symV] at e ⊢; exact Or.inl e)
      · walk_at "go"
        refine ⟨.str z, Av, rfl, t, fun H' r => ?_⟩
        exact rtb (k _ r) (by simp [symV, nameV] at e ⊢; simp [e])

theorem ok_is_pair (T : Txt mg) (D : At K mg "is_pair" s_is_pair) (h_is_integer : Has P w K mg base CX0 "is_integer" s_is_integer ["value"] 1 (spAsk 0 fun _ v => isI v)) (h_is_symbol : Has P w K mg base CX0 "is_symbol" s_is_symbol ["value"] 2 (spAsk 0 fun _ v => symV v)) :
    Has P w K mg base CX0 "is_pair" s_is_pair ["value"] 3 (spAsk 1 pairV) := by
  have nd := sc_is_pair.nd
  refine has_mk D sc_is_pair (fun vs H Q E h => ?len) (fun _ _ _ _ _ _ us hl => match us, hl with | [_], _ => rfl) (fun f cdv A outer s H vs Q E hr hgd h => ?bd)
  case len =>
    obtain ⟨v, Av, rfl, _⟩ := h
    rfl
  case bd =>
    obtain ⟨v, Av, rfl, t, k⟩ := h
    refine ⟨_, (pss_cons (ps_if (PW.pt (pw_or (pt_not (pt_val (pe_callB (isiK K) rfl T.b_isinstance (by decide +kernel) (pa_cons (pv 0) (pa_cons (pe_bltn (v := .ty "tuple") rfl T.b_tuple (by decide +kernel) rfl) pa_nil))))) (pw_or1 (pt_cmpR op_ne (pe_callB (lenK K) rfl T.b_len (by decide +kernel) (pa_cons (pv 0) pa_nil)) pe_int (nomark _))))) (pss_one (ps_ret pe_bl)) pss_nil)
      (pss_one (ps_ret (pe_and (peH h_is_symbol (hr.mono (by decide)) hgd rfl (pa_cons (pe_ix (ixT K) (pv 0) pe_int (fun _ _ => rfl)) pa_nil)) (pe_and (peH h_is_integer (hr.mono (by decide)) hgd rfl (pa_cons (pe_ix (ixT K) (pv 0) pe_int (fun _ _ => rfl)) pa_nil)) (pe_one (pe_cmpR op_ge (pe_ix (ixT K) (pv 0) pe_int (fun _ _ => rfl)) pe_int (nomark _)))))))), ?_⟩
    cases ht : tupOf H v with
    | none =>
      walk_at "go"
      refine ite_t (by rw [ht]; rfl) ?_
      walk_at "go"
      exact rtb (k _ (Same.refl _)) (pairV_none ht).symm
    | some xs =>
      obtain ⟨q, rfl, hq⟩ := tupOf_at ht
      obtain ⟨hl, ha⟩ := t.tup hq
      walk_at "go"
      refine ite_f (by rw [ht]; rfl) ?_
      walk_at "go"
      refine ite_b (fun e => ?_) (fun e => ?_)
      · walk_at "go"
        exact rtb (k _ (Same.refl _)) (pairV_len ht (fun z => by simp [z] at e)).symm
      · obtain ⟨a, b, rfl⟩ := two_of (xs := xs) (by simp at e; omega)
        have ta := ha a (by simp)
        have tb := ha b (by simp)
        walk_at "go"
        refine ⟨a, Av, rfl, ta, fun H1 r1 => ?_⟩
        walk_at "go"
        refine ite_b (fun (e1 : symV a = true) => ?_) (fun (e1 : symV a = false) => ?_)
        · walk_at "go"
          refine ⟨b, Av, rfl, Th.stab (Same.ag r1) tb, fun H2 r2 => ?_⟩
          walk_at "go"
          refine ite_b (fun e2 => ?_) (fun e2 => ?_)
          · obtain ⟨i, rfl⟩ := isI_int e2
            walk_at "go"
            exact rtb (k _ (r1.trans r2)) (by rw [pairV_of ht, e1]; rfl)
          · exact rtb (k _ (r1.trans r2)) (by rw [pairV_of ht, e1]; cases b <;> first | rfl | cases e2)
        · exact rtb (k _ r1) (by rw [pairV_of ht, e1]; rfl)

theorem ok_is_values (T : Txt mg) (D : At K mg "is_values" s_is_values) (h_is_pair : Has P w K mg base CX0 "is_pair" s_is_pair ["value"] 3 (spAsk 1 pairV)) :
    Has P w K mg base CX0 "is_values" s_is_values ["value"] 4 (spAsk 2 valsV) := by
  have nd := sc_is_values.nd
  refine has_mk D sc_is_values (fun vs H Q E h => ?len) (fun _ _ _ _ _ _ us hl => match us, hl with | [_], _ => rfl) (fun f cdv A outer s H vs Q E hr hgd h => ?bd)
  case len =>
    obtain ⟨v, Av, rfl, _⟩ := h
    rfl
  case bd =>
    obtain ⟨v, Av, rfl, t, k⟩ := h
    refine ⟨_, (pss_cons (ps_if (PW.pt (pw_or (pt_not (pt_val (pe_callB (isiK K) rfl T.b_isinstance (by decide +kernel) (pa_cons (pv 0) (pa_cons (pe_bltn (v := .ty "tuple") rfl T.b_tuple (by decide +kernel) rfl) pa_nil))))) (pw_or1 (pt_not (pt_val (pe_callB (allK K) rfl T.b_all (by decide +kernel) (pa_cons (pe_lc (own := [("pair", 1)]) (g := gName 1) (tt := tYes) rfl nd (piT K (he := (pv 0))) (blkOk_by (N := N_is_values) (sc := defScope s_is_values) (own := [("pair", 1)]) (by decide +kernel)) (fun _ _ _ _ _ => (pg_name (i := 1) nd rfl (Or.inl rfl))) (fun _ _ _ _ _ => pts_nil) (fun _ _ _ _ _ => (peH h_is_pair (hr.mono (by decide)) hgd rfl (pa_cons (pv 1) pa_nil)))) pa_nil))))))) (pss_one (ps_ret pe_bl)) pss_nil)
      (pss_one (ps_ret (pe_callB (allK K) rfl T.b_all (by decide +kernel) (pa_cons (pe_lc (own := [("at", 2)]) (g := gName 2) (tt := tYes) rfl nd (pi_range1 rfl T.b_range (pa_cons (pe_op op_sub (pe_callB (lenK K) rfl T.b_len (by decide +kernel) (pa_cons (pv 0) pa_nil)) pe_int) pa_nil)) (blkOk_by (N := N_is_values) (sc := defScope s_is_values) (own := [("at", 2)]) (by decide +kernel)) (fun _ _ _ _ _ => (pg_name (i := 2) nd rfl (Or.inl rfl))) (fun _ _ _ _ _ => pts_nil) (fun _ _ _ _ _ => (pe_cmpR o_ltS (pe_ix (ixT K) (pe_ix (ixT K) (pv 0) (pv 2) (fun _ _ => rfl)) pe_int (fun _ _ => rfl)) (pe_ix (ixT K) (pe_ix (ixT K) (pv 0) (pe_op op_add (pv 2) pe_int) (fun _ _ => rfl)) pe_int (fun _ _ => rfl)) (nomark _)))) pa_nil))))), ?_⟩
    cases ht : tupOf H v with
    | none =>
      walk_at "go"
      refine ite_t (by rw [ht]; rfl) ?_
      walk_at "go"
      exact rtb (k _ (Same.refl _)) (valsV_none ht).symm
    | some xs =>
      obtain ⟨q, rfl, hq⟩ := tupOf_at ht
      obtain ⟨hl, ha⟩ := t.tup hq
      walk_at "go"
      refine ite_f (by rw [ht]; rfl) ?_
      walk_at "go"
      refine lcP (walk_tup (xs := xs)) (fun x => .bl (pairV H x)) (fun H1 r => SqT.of (r _ _ hq)) (by omega) ?_ gm_name ?_
      · intro x H1 Q1 hx r c
        refine ⟨rfl, ?_⟩
        walk_at "go"
        refine ⟨x, Av, rfl, Th.stab (Same.ag r) (ha x hx), fun H2 r2 => ?_⟩
        have e : pairV H1 x = pairV H x := pairV_stab r (ha x hx)
        rw [e]
        exact c _ r2
      · intro D1 H1 hD1 r1 hd1
        walk_at "go"
        refine s_all (bs := xs.map (pairV H)) (by rw [hd1, List.map_map]; rfl) ?_
        walk_at "go"
        refine ite_b (fun e => ?_) (fun e => ?_)
        · walk_at "go"
          refine rtb (k _ r1) ?_
          rw [valsV_some ht]
          rw [Bool.not_eq_true'] at e
          rw [List.all_map] at e
          have e' : xs.all (pairV H) = false := e
          rw [e']
          rfl
        · rw [Bool.not_eq_false', List.all_map] at e
          have e' : xs.all (pairV H) = true := e
          have ep := List.all_eq_true.mp e'
          walk_at "go"
          refine lcP (xs := rngV ((xs.length : Int) - 1).toNat) wx_rng (fun x => .bl (match x with | .int i => ltS ((xs.map (keyV H)).getD i.toNat Str.empty) ((xs.map (keyV H)).getD (i.toNat + 1) Str.empty) | _ => false)) (fun _ _ => trivial) (by simp [rngV]; omega) ?_ gm_name ?_
          · intro x H2 Q1 hx r c
            obtain ⟨i, hi, rfl⟩ := List.mem_map.mp hx
            rw [List.mem_range] at hi
            have i1 : i < xs.length := by omega
            have i2 : i + 1 < xs.length := by omega
            obtain ⟨q1, z1, c1, cs1, n1, e1, g1, _, _, y1⟩ := pairV_iff (ep _ (List.getElem_mem i1))
            obtain ⟨q2, z2, c2, cs2, n2, e2, g2, _, _, y2⟩ := pairV_iff (ep _ (List.getElem_mem i2))
            have x1 : atI xs ((i : Nat) : Int) = some (.ref q1) := by rw [atI_of (x := xs[i]) (by simp [i1]), e1]
            have x2 : atI xs (((i : Nat) : Int) + 1) = some (.ref q2) := by
              have := atI_of (xs := xs) (i := i + 1) (x := xs[i + 1]) (by simp [i2])
              rw [e2] at this
              exact this
            have r0 : Same H H2 := r1.trans r
            have h1 := r0 _ _ g1
            have h2 := r0 _ _ g2
            have h3 := r0 _ _ hq
            refine ⟨rfl, ?_⟩
            walk_at "go"
            refine rtb (c _ (Same.refl _)) ?_
            show decide (z1.cps.toList < z2.cps.toList) = ltS ((xs.map (keyV H)).getD i Str.empty) ((xs.map (keyV H)).getD (i + 1) Str.empty)
            have w1 : (xs.map (keyV H)).getD i Str.empty = z1 := by simp [List.getD, i1, y1]
            have w2 : (xs.map (keyV H)).getD (i + 1) Str.empty = z2 := by simp [List.getD, i2, y2]
            rw [w1, w2]
            rfl
          · intro D2 H2 hD2 r2 hd2
            walk_at "go"
            refine s_all (bs := (List.range (xs.length - 1)).map fun i => ltS ((xs.map (keyV H)).getD i Str.empty) ((xs.map (keyV H)).getD (i + 1) Str.empty)) ?_ ?_
            · rw [hd2]
              have : ((xs.length : Int) - 1).toNat = xs.length - 1 := by omega
              rw [this]
              unfold rngV
              rw [List.map_map, List.map_map]
              rfl
            · refine rtb (k _ (r1.trans r2)) ?_
              rw [valsV_some ht, e', ascS_range, List.all_map, List.length_map]
              rfl

theorem ok__law_cell (T : Txt mg) (D : At K mg "_law_cell" s__law_cell) :
    Has P w K mg base CX0 "_law_cell" s__law_cell ["_law_script", "_law_k"] 1 (spCell K) := by
  have nd := sc__law_cell.nd
  refine has_mk D sc__law_cell (fun vs H Q E h => ?len) (fun _ _ _ _ _ _ us hl => match us, hl with | [_, _], _ => rfl) (fun f cdv A outer s H vs Q E hr hgd h => ?bd)
  case len =>
    obtain ⟨a, ns, kk, rfl, _⟩ := h
    rfl
  case bd =>
    obtain ⟨a, ns, kk, rfl, hS, hn, h0, h1, k⟩ := h
    refine ⟨_, (pss_cons (ps_if (pt_cmpR op_lt (pv 1) (pe_callB (lenK K) rfl T.b_len (by decide +kernel) (pa_cons (pv 0) pa_nil)) (nomark _)) (pss_one (ps_ret (pe_callTy c_int1 rfl T.b_int (by decide +kernel) (pa_cons (pe_ix (ixL K) (pv 0) (pv 1) (fun _ _ => rfl)) pa_nil)))) pss_nil)
      (pss_cons (ps_set (i := 2) nd rfl (Or.inl rfl) (pe_op op_add pe_int (pe_op op_mul pe_int (pv 1))))
      (pss_cons (ps_for PassesOwn.never rfl (piL K (he := (pe_slice (slLK K) (pv 0) po_none (po_some pe_int)))) (pg_name (i := 3) nd rfl (Or.inl rfl))
      (pss_one (ps_set (i := 2) nd rfl (Or.inl rfl) (pe_op op_mod (pe_callTy c_int1 rfl T.b_int (by decide +kernel) (pa_cons (pe_op op_add (pe_op op_add (pe_op op_mul (pv 2) pe_int) (pe_callTy c_int1 rfl T.b_int (by decide +kernel) (pa_cons (pv 3) pa_nil))) (pe_op op_mul pe_int (pv 1))) pa_nil)) pe_int))))
      (pss_one (ps_ret (pv 2)))))), ?_⟩
    walk_at "go"
    refine ite_b (fun e => ?_) (fun e => ?_)
    · rw [decide_eq_true_eq] at e
      obtain ⟨v, hv, hm, _⟩ := atI_ofI h0 e
      obtain ⟨i, rfl⟩ := mem_ints hm
      walk_at "go"
      exact k _ _ (Same.refl _)
    · walk_at "go"
      refine s_slL hS fun q H1 hq r1 e1 => ?_
      walk_at "go"
      refine lc_of (walk_list (xs := cutV (ns.map V.int) none (some 4))) (fun i σ H2 => H2 = H1 ∧ ∃ (m : Int) (x : Option V), σ = [some (.ref a), some (.int kk), some (.int m), x] ∧ 0 ≤ m ∧ m < 1099511627776) ⟨rfl, _, _, rfl, by omega, by omega⟩ ?_ ?_ ?_
      · rintro i σ H2 _ ⟨rfl, _⟩
        exact SqL.of e1
      · rintro i x σ H2 H3 hi ⟨rfl, m, o, rfl, m0, m1⟩ ⟨rfl, hx⟩
        obtain ⟨z, rfl⟩ := mem_ints (mem_cut (List.mem_of_getElem? hx))
        walk_at "go"
        exact ⟨rfl, _, _, rfl, Int.emod_nonneg _ (by decide), Int.lt_trans (Int.emod_lt_of_pos _ (by decide)) (by decide)⟩
      · rintro σ H2 ⟨rfl, m, o, rfl, _⟩
        walk_at "go"
        exact k _ _ r1

theorem ok__law_heap (T : Txt mg) (D : At K mg "_law_heap" s__law_heap) :
    Has P w K mg base CX0 "_law_heap" s__law_heap ["_law_number"] 1 spHeap := by
  have nd := sc__law_heap.nd
  refine has_mk D sc__law_heap (fun vs H Q E h => ?len) (fun _ _ _ _ _ _ us hl => match us, hl with | [_], _ => rfl) (fun f cdv A outer s H vs Q E hr hgd h => ?bd)
  case len =>
    obtain ⟨m, rfl, _⟩ := h
    rfl
  case bd =>
    obtain ⟨m, rfl, k⟩ := h
    refine ⟨_, (pss_cons (ps_set (i := 1) nd rfl (Or.inl rfl) (pe_ifExp (PW.pt (pw_or (pt_cmpR op_lt (pv 0) pe_int (nomark _)) (pw_or1 (pt_cmpR op_ge (pv 0) (pe_op op_pow pe_int pe_int) (nomark _))))) (pe_callB c_abs rfl T.b_abs (by decide +kernel) (pa_cons (pv 0) pa_nil)) pe_int))
      (pss_one (ps_ret (pe_lst (pa_cons (pe_op op_mod (pe_callTy c_int1 rfl T.b_int (by decide +kernel) (pa_cons (pe_op op_add (pe_op op_mul (pv 0) pe_int) pe_int) pa_nil)) pe_int) (pa_cons (pv 1) (pa_cons pe_int pa_nil))))))), ?_⟩
    walk_at "go"
    refine ite_b (fun e => ?_) (fun e => ?_)
    · walk_at "go"
      refine s_mk fun p H1 hp r e1 => ?_
      refine k p H1 hp r ⟨_, _, _, e1, Int.emod_nonneg _ (by decide), Int.emod_lt_of_pos _ (by decide), ?_⟩
      split <;> omega
    · walk_at "go"
      refine ite_b (fun e => ?_) (fun e => ?_)
      · walk_at "go"
        refine s_mk fun p H1 hp r e1 => ?_
        refine k p H1 hp r ⟨_, _, _, e1, Int.emod_nonneg _ (by decide), Int.emod_lt_of_pos _ (by decide), ?_⟩
        split <;> omega
      · walk_at "go"
        refine s_mk fun p H1 hp r e1 => ?_
        exact k p H1 hp r ⟨_, _, _, e1, Int.emod_nonneg _ (by decide), Int.emod_lt_of_pos _ (by decide), Int.le_refl 0⟩

theorem ok__law_roll (T : Txt mg) (D : At K mg "_law_roll" s__law_roll) :
    Has P w K mg base CX0 "_law_roll" s__law_roll ["_law_heap_here", "_law_many"] 1 spRoll := by
  have nd := sc__law_roll.nd
  refine has_mk D sc__law_roll (fun vs H Q E h => ?len) (fun _ _ _ _ _ _ us hl => match us, hl with | [_, _], _ => rfl) (fun f cdv A outer s H vs Q E hr hgd h => ?bd)
  case len =>
    obtain ⟨p, n, rfl, _⟩ := h
    rfl
  case bd =>
    obtain ⟨p, n, rfl, ⟨s0, d0, c0, hp, h1, h2, h3⟩, hn, hn2, k⟩ := h
    refine ⟨_, (pss_cons (ps_asg (pe_op op_add (pe_ix (ixL K) (pv 0) pe_int (fun _ _ => rfl)) pe_int) (pg_sub (pv 0) pe_int set_list))
      (pss_cons (ps_if (pt_cmpR op_gt (pe_ix (ixL K) (pv 0) pe_int (fun _ _ => rfl)) pe_int (nomark _)) (pss_cons (ps_set (i := 2) nd rfl (Or.inl rfl) (pe_op op_mod (pe_callTy c_int1 rfl T.b_int (by decide +kernel) (pa_cons (pe_ix (ixL K) (pv 0) pe_int (fun _ _ => rfl)) pa_nil)) (pv 1)))
      (pss_cons (ps_asg (pe_op op_fdiv (pe_ix (ixL K) (pv 0) pe_int (fun _ _ => rfl)) (pv 1)) (pg_sub (pv 0) pe_int set_list))
      (pss_one (ps_ret (pv 2))))) pss_nil)
      (pss_cons (ps_set (i := 3) nd rfl (Or.inl rfl) (pe_callTy c_int1 rfl T.b_int (by decide +kernel) (pa_cons (pe_ix (ixL K) (pv 0) pe_int (fun _ _ => rfl)) pa_nil)))
      (pss_cons (ps_asg (pe_op op_mod (pe_callTy c_int1 rfl T.b_int (by decide +kernel) (pa_cons (pe_op op_add (pe_op op_mul (pv 3) (pe_op op_add (pe_op op_mod (pv 3) pe_int) pe_int)) (pe_op op_mul pe_int (pe_ix (ixL K) (pv 0) pe_int (fun _ _ => rfl)))) pa_nil)) pe_int) (pg_sub (pv 0) pe_int set_list))
      (pss_one (ps_ret (pe_op op_mod (pe_callTy c_int1 rfl T.b_int (by decide +kernel) (pa_cons (pe_op op_fdiv (pe_ix (ixL K) (pv 0) pe_int (fun _ _ => rfl)) pe_int) pa_nil)) (pv 1)))))))), ?_⟩
    have m : p ∈ [p] := List.mem_cons_self
    walk_at "go"
    refine ite2 (fun hd => ?_) (fun hd => ?_)
    · walk_at "go"
      exact k _ _ (Int.emod_nonneg _ (by omega)) (Int.emod_lt_of_pos _ hn) ((Rx.put m).trans (Rx.put m)) ⟨s0, d0 / n, c0 + 1, upd_same, h1, h2, Int.ediv_nonneg h3 (by omega)⟩
    · walk_at "go"
      exact k _ _ (Int.emod_nonneg _ (by omega)) (Int.emod_lt_of_pos _ hn) ((Rx.put m).trans (Rx.put m)) ⟨_, d0, c0 + 1, upd_same, Int.emod_nonneg _ (by decide), Int.emod_lt_of_pos _ (by decide), h3⟩

theorem ok__law_pick (T : Txt mg) (D : At K mg "_law_pick" s__law_pick) (h__law_roll : Has P w K mg base CX0 "_law_roll" s__law_roll ["_law_heap_here", "_law_many"] 1 spRoll) :
    Has P w K mg base CX0 "_law_pick" s__law_pick ["_law_heap_here", "_law_things"] 2 (spPick K) := by
  have nd := sc__law_pick.nd
  refine has_mk D sc__law_pick (fun vs H Q E h => ?len) (fun _ _ _ _ _ _ us hl => match us, hl with | [_, _], _ => rfl) (fun f cdv A outer s H vs Q E hr hgd h => ?bd)
  case len =>
    obtain ⟨p, x, rfl, _⟩ := h
    rfl
  case bd =>
    obtain ⟨p, x, rfl, d, h⟩ := h
    refine ⟨_, (pss_one (ps_ret (pe_ix (ixQ K) (pv 1) (peH h__law_roll (hr.mono (by decide)) hgd rfl (pa_cons (pv 0) (pa_cons (pe_callB (lenK K) rfl T.b_len (by decide +kernel) (pa_cons (pv 1) pa_nil)) pa_nil))) (fun _ _ => rfl)))), ?_⟩
    rcases h with ⟨q, xs, rfl, ne, hS, n0, n1, k⟩ | ⟨z, rfl, n0, n1, k⟩
    · have hl : 0 < xs.length := List.length_pos_iff.mpr n0
      walk_at "go"
      refine ⟨p, _, rfl, d, by omega, by omega, fun i H1 i0 i1 r1 d1 => ?_⟩
      obtain ⟨v, hv, hm, _⟩ := atI_ofI i0 i1
      exact .inl (s_ixL (r1.sql (by simpa using ne) hS) hv (k v H1 hm r1 d1))
    · walk_at "go"
      refine ⟨p, _, rfl, d, by omega, by omega, fun i H1 i0 i1 r1 d1 => ?_⟩
      obtain ⟨v, hv, hm, _⟩ := atI_ofI (xs := z.cps.toList) i0 (by rw [Array.length_toList]; exact i1)
      exact .inr (.inr (s_ixS (sz1 (by omega)) hv (k v H1 hm r1 d1)))

theorem ok__law_name (T : Txt mg) (D : At K mg "_law_name" s__law_name) (h__law_pick : Has P w K mg base CX0 "_law_pick" s__law_pick ["_law_heap_here", "_law_things"] 2 (spPick K)) (h__law_roll : Has P w K mg base CX0 "_law_roll" s__law_roll ["_law_heap_here", "_law_many"] 1 spRoll) :
    Has P w K mg base CX0 "_law_name" s__law_name ["_law_heap_here"] 3 spName := by
  have nd := sc__law_name.nd
  refine has_mk D sc__law_name (fun vs H Q E h => ?len) (fun _ _ _ _ _ _ us hl => match us, hl with | [_], _ => rfl) (fun f cdv A outer s H vs Q E hr hgd h => ?bd)
  case len =>
    obtain ⟨p, rfl, _⟩ := h
    rfl
  case bd =>
    obtain ⟨p, rfl, d, k⟩ := h
    refine ⟨_, (pss_cons (ps_set (i := 1) nd rfl (Or.inl rfl) (pe_lst (pa_cons pe_str (pa_cons pe_str (pa_cons pe_str (pa_cons pe_str (pa_cons pe_str (pa_cons pe_str (pa_cons pe_str (pa_cons pe_str (pa_cons pe_str (pa_cons pe_str (pa_cons pe_str (pa_cons pe_str (pa_cons pe_str (pa_cons pe_str (pa_cons pe_str pa_nil)))))))))))))))))
      (pss_cons (ps_set (i := 2) nd rfl (Or.inl rfl) (peH h__law_roll (hr.mono (by decide)) hgd rfl (pa_cons (pv 0) (pa_cons pe_int pa_nil))))
      (pss_cons (ps_if (pt_cmpR op_eq (pv 2) pe_int (nomark _)) (pss_one (ps_ret (peH h__law_pick (hr.mono (by decide)) hgd rfl (pa_cons (pv 0) (pa_cons (pv 1) pa_nil))))) pss_nil)
      (pss_cons (ps_set (i := 3) nd rfl (Or.inr rfl) pe_str)
      (pss_cons (ps_setLc (i := 4) (own := [("_law_k", 6)]) (g := gName 6) (tt := tYes) rfl nd rfl rfl (sw_true rfl rfl rfl (by decide +kernel)) (pi_range1 rfl T.b_range (pa_cons (pe_ix (ixL K) (pe_lst (pa_cons pe_int (pa_cons pe_int (pa_cons pe_int (pa_cons pe_int pa_nil))))) (peH h__law_roll (hr.mono (by decide)) hgd rfl (pa_cons (pv 0) (pa_cons pe_int pa_nil))) (fun _ _ => rfl)) pa_nil)) (blkOk_by (N := N__law_name) (sc := defScope s__law_name) (own := [("_law_k", 6)]) (by decide +kernel)) (fun _ _ _ _ _ => (pg_name (i := 6) nd rfl (Or.inl rfl))) (fun _ _ _ _ _ => pts_nil) (fun _ _ _ _ _ => (peH h__law_pick (hr.mono (by decide)) hgd rfl (pa_cons (pv 0) (pa_cons (pe_op o_addS (pv 3) pe_str) pa_nil)))))
      (pss_cons (ps_set (i := 5) nd rfl (Or.inl rfl) (pe_op o_addS (peH h__law_pick (hr.mono (by decide)) hgd rfl (pa_cons (pv 0) (pa_cons (pv 3) pa_nil))) (joinK K (ho := pe_str) (he := (pv 4)))))
      (pss_one (ps_ret (pe_ifExp (pt_cmpR op_ne (pv 5) pe_str (nomark _)) (pv 5) pe_str))))))))), ?_⟩
    walk_at "go"
    refine s_mk fun w H1 hw r1 e1 => ?_
    have n1 : w ≠ p := d.ne hw
    walk_at "go"
    refine ⟨p, 4, rfl, by walk_at "dr", by decide, by decide, fun i H2 i0 i4 r2 d2 => ?_⟩
    walk_at "go"
    refine ite_b (fun e => ?_) (fun e => ?_)
    · walk_at "go"
      refine ⟨p, _, rfl, d2, .inl ⟨w, _, rfl, n1, SqL.of (by walk_at "hp"), by simp, by decide, fun v H3 hv r3 d3 => ?_⟩⟩
      have : ∃ z : Str, v = .str z ∧ Nm z := by
        simp only [List.mem_cons, List.not_mem_nil, or_false] at hv
        rcases hv with rfl | rfl | rfl | rfl | rfl | rfl | rfl | rfl | rfl | rfl | rfl | rfl | rfl | rfl | rfl <;> exact ⟨_, rfl, by decide +kernel⟩
      obtain ⟨z, rfl, hn⟩ := this
      exact k z H3 hn (by walk_at "rx") d3
    · walk_at "go"
      refine s_mk fun q H3 hq r3 e3 => ?_
      have n3 : q ≠ p := d2.ne hq
      walk_at "go"
      refine ⟨p, 4, rfl, by walk_at "dr", by decide, by decide, fun j H4 j0 j4 r4 d4 => ?_⟩
      have hj : ∃ m : Nat, atI [V.int 0, V.int 1, V.int 3, V.int 7] j = some (.int m) ∧ m ≤ 7 := by
        have : j = 0 ∨ j = 1 ∨ j = 2 ∨ j = 3 := by omega
        rcases this with rfl | rfl | rfl | rfl
        · exact ⟨0, rfl, by omega⟩
        · exact ⟨1, rfl, by omega⟩
        · exact ⟨3, rfl, by omega⟩
        · exact ⟨7, rfl, by omega⟩
      obtain ⟨m, hj, hm⟩ := hj
      walk_at "go"
      refine lcD (p := p) (Ft.val (P := fun v => ∃ c : Nat, v = .str ⟨#[c]⟩ ∧ c < 128)) (xs := rngV m) wx_rng d4 (fun _ _ => trivial) (by simp [rngV]; omega) ?_ gm_name ?_
      · intro x H5 Q1 hx r5 d5 c
        refine ⟨rfl, ?_⟩
        walk_at "go"
        refine ⟨p, _, rfl, d5, .inr ⟨_, rfl, by decide +kernel, by decide +kernel, fun v H6 hv r6 d6 => ?_⟩⟩
        exact c _ _ r6 d6 ⟨v, rfl, (by decide +kernel : asc (Str.ofString "abcdefghijklmnopqrstuvwxyz" ++ Str.ofString "0123456789")) v hv⟩
      · intro D H5 ys hD r5 d5 hd hy hP
        obtain ⟨cs, rfl, hcs, hca⟩ := signs_of hP
        have hlen : cs.length = m := by rw [hcs, hy]; simp [rngV]
        have nD : D ≠ p := d4.ne hD
        walk_at "go"
        refine ⟨p, _, rfl, d5, .inr ⟨_, rfl, by decide +kernel, by decide +kernel, fun v H6 hv r6 d6 => ?_⟩⟩
        walk_at "go"
        refine s_join (by walk_at "hp") (by rw [sum_ones, List.length_map]; show _ + _ * 0 ≤ _; omega) ?_
        have hl : (Txt.join (Str.ofString "") (cs.map fun c => (⟨#[c]⟩ : Str))).length = m := by rw [len_join, sum_ones, hlen]
        have h1 : (⟨#[v]⟩ : Str).length = 1 := rfl
        have hv2 : v < 128 := (by decide +kernel : asc (Str.ofString "abcdefghijklmnopqrstuvwxyz")) v hv
        have hja : asc (Txt.join (Str.ofString "") (cs.map fun c => (⟨#[c]⟩ : Str))) := by
          intro c hc
          rw [join_signs] at hc
          exact hca c hc
        walk_at "go"
        refine ite_b (fun e => ?_) (fun e => ?_)
        · walk_at "go"
          exact k _ _ ⟨by rw [len_app]; omega, by rw [len_app]; omega, asc_app (asc_one hv2) hja⟩ (by walk_at "rx") d6
        · walk_at "go"
          exact k _ _ (by decide +kernel) (by walk_at "rx") d6

theorem ok__law_names (T : Txt mg) (D : At K mg "_law_names" s__law_names) (h__law_name : Has P w K mg base CX0 "_law_name" s__law_name ["_law_heap_here"] 3 spName) (h__law_pick : Has P w K mg base CX0 "_law_pick" s__law_pick ["_law_heap_here", "_law_things"] 2 (spPick K)) (h__law_roll : Has P w K mg base CX0 "_law_roll" s__law_roll ["_law_heap_here", "_law_many"] 1 spRoll) :
    Has P w K mg base CX0 "_law_names" s__law_names ["_law_heap_here", "_law_many"] 4 spNames := by
  have nd := sc__law_names.nd
  refine has_mk D sc__law_names (fun vs H Q E h => ?len) (fun _ _ _ _ _ _ us hl => match us, hl with | [_, _], _ => rfl) (fun f cdv A outer s H vs Q E hr hgd h => ?bd)
  case len =>
    obtain ⟨p, n, rfl, _⟩ := h
    rfl
  case bd =>
    obtain ⟨p, n, rfl, d, n1, n8, k⟩ := h
    refine ⟨_, (pss_cons (ps_set (i := 2) nd rfl (Or.inr rfl) (pe_lst pa_nil))
      (pss_cons (ps_for PassesOwn.never rfl (pi_range1 rfl T.b_range (pa_cons (pv 1) pa_nil)) (pg_name (i := 3) nd rfl (Or.inl rfl))
      (pss_cons (ps_set (i := 4) nd rfl (Or.inr rfl) (peH h__law_name (hr.mono (by decide)) hgd rfl (pa_cons (pv 0) pa_nil)))
      (pss_cons (ps_if (PW.pt (pw_and (pt_cmpR (neDK K (hu := hr.units)) (pv 2) (pe_lst pa_nil) (nomark _)) (pw_and1 (pt_cmpR op_eq (peH h__law_roll (hr.mono (by decide)) hgd rfl (pa_cons (pv 0) (pa_cons pe_int pa_nil))) pe_int (nomark _))))) (pss_one (ps_set (i := 4) nd rfl (Or.inr rfl) (pe_op o_addS (pe_slice sl_str (peH h__law_pick (hr.mono (by decide)) hgd rfl (pa_cons (pv 0) (pa_cons (pv 2) pa_nil))) po_none (po_some pe_int)) (peH h__law_pick (hr.mono (by decide)) hgd rfl (pa_cons (pv 0) (pa_cons pe_str pa_nil)))))) pss_nil)
      (pss_cons (ps_set (i := 5) nd rfl (Or.inl rfl) (pe_op op_cat (pe_lst (pa_cons (pv 4) pa_nil)) (pe_lc (own := [("_law_j", 6)]) (g := gName 6) (tt := tYes) rfl nd (pi_range1 rfl T.b_range (pa_cons (pv 1) pa_nil)) (blkOk_by (N := N__law_names) (sc := defScope s__law_names) (own := [("_law_j", 6)]) (by decide +kernel)) (fun _ _ _ _ _ => (pg_name (i := 6) nd rfl (Or.inl rfl))) (fun _ _ _ _ _ => pts_nil) (fun _ _ _ _ _ => (pe_op o_addS (pe_slice sl_str (pv 4) po_none (po_some pe_int)) (pe_callTy c_strI rfl T.b_str (by decide +kernel) (pa_cons (pv 6) pa_nil)))))))
      (pss_one (ps_expr (appendK K (ho := (pv 2)) (ha := (pa_cons (pe_ix (ixL K) (pe_lc (own := [("_law_each", 7)]) (g := gName 7) rfl nd (piL K (he := (pv 5))) (blkOk_by (N := N__law_names) (sc := defScope s__law_names) (own := [("_law_each", 7)]) (by decide +kernel)) (fun _ _ _ _ _ => (pg_name (i := 7) nd rfl (Or.inl rfl))) (fun _ _ _ _ _ => (pts_one (pt_cmpR (ninQ K) (pv 7) (pv 2) rfl))) (fun _ _ _ _ _ => (pv 7))) pe_int (fun _ _ => rfl)) pa_nil)))))))))
      (pss_one (ps_ret (pv 2))))), ?_⟩
    walk_at "go"
    refine s_mk fun f0 H1 hf r1 e1 => ?_
    have nf : f0 ≠ p := d.ne hf
    walk_at "go"
    refine lc_of (wx_rng (n := n.toNat)) (fun i σ H2 => Rx [p] H H2 ∧ Dr p H2 ∧ ∃ (zs : List Str) (o1 o2 o3 : Option V), σ = [some (.ref p), some (.int n), some (.ref f0), o1, o2, o3, none, none] ∧ H2 f0 = some (.lst (zs.map V.str)) ∧ zs.length = i ∧ ∀ z ∈ zs, Nm z) ⟨by walk_at "rx", by walk_at "dr", [], _, _, _, rfl, e1, rfl, by simp⟩ (fun _ _ _ _ _ => trivial) ?_ ?_
    · rintro i x σ H2 H3 hi ⟨r2, d2, zs, o1, o2, o3, rfl, hz, hzl, hza⟩ ⟨rfl, hx⟩
      have hi' : i < n.toNat := by simpa [rngV] using hi
      walk_at "gos"
      refine ⟨p, rfl, d2, fun nm H4 hnm r4 d4 => ?_⟩
      walk_at "gos"
      with_reducible refine s_seqJ (fun σ' H' => ∃ nm : Str, σ' = [some (.ref p), some (.int n), some (.ref f0), some x, some (.str nm), o3, none, none] ∧ Nm nm ∧ Rx [p] H3 H' ∧ Dr p H') ?_ (fun N hN => ?_)
      · rintro σ' H5 ⟨nm, rfl, hnm, r5, d5⟩
        have hz5 : H5 f0 = some (.lst (zs.map V.str)) := by walk_at "hp"
        have l1 := hnm.len
        walk_at "go"
        refine s_mk fun q1 H6 hq1 r6 e6 => ?_
        walk_at "go"
        refine lcP wx_rng (fun x => match x with | .int j => .str (cutS nm none (some 6) ++ Str.ofString (toString j)) | _ => .non) (fun _ _ => trivial) (by simp [rngV]; omega) ?_ gm_name ?_
        · intro y H7 Q1 hy r7 c
          obtain ⟨j, hj, rfl⟩ := List.mem_map.mp hy
          rw [List.mem_range] at hj
          have hts := tsS j (by omega)
          have hc6 := len_cut_to nm 6
          refine ⟨rfl, ?_⟩
          walk_at "go"
          refine s_strI (small_log (by omega) (by omega)) ?_
          refine s_addS (sz1 ?_) ?_
          · have : (cutS nm none (some 6)).length ≤ 6 := hc6
            omega
          exact c _ (Same.refl _)
        · intro D H7 hD r7 hd
          have hmenu : (rngV n.toNat).map (fun x => match x with | .int j => V.str (cutS nm none (some 6) ++ Str.ofString (toString j)) | _ => .non) = ((List.range n.toNat).map fun (j : Nat) => cutS nm none (some 6) ++ Str.ofString (toString (j : Int))).map V.str := by
            unfold rngV
            rw [List.map_map, List.map_map]
            rfl
          rw [hmenu] at hd
          have q16 : H7 q1 = some (.lst [V.str nm]) := by walk_at "hp"
          refine s_cat q16 hd (sz1 (by simp; omega)) fun m0 H8 hm0 r8 e8 => ?_
          have e8' : H8 m0 = some (.lst ((nm :: (List.range n.toNat).map fun (j : Nat) => cutS nm none (some 6) ++ Str.ofString (toString (j : Int))).map V.str)) := e8
          have hz8 : H8 f0 = some (.lst (zs.map V.str)) := by walk_at "hp"
          walk_at "go"
          refine lcF (walk_list (xs := (nm :: (List.range n.toNat).map fun (j : Nat) => cutS nm none (some 6) ++ Str.ofString (toString (j : Int))).map V.str)) (fun x => !inV x (zs.map V.str)) (fun H9 r9 => SqL.of (r9 _ _ e8')) (by simp; omega) (fun _ => rfl) (fun _ => rfl) ?_ ?_
          · intro y H9 Q1 hy r9 c
            obtain ⟨s, hs, rfl⟩ := List.mem_map.mp hy
            walk_at "go"
            refine s_nin (SqL.of (r9 _ _ hz8)) rfl flat_strs ?_
            walk_at "go"
            exact c _ (Same.refl _)
          · intro D2 H9 hD2 r9 hd2
            obtain ⟨j, hj, hjn⟩ := pigeon (fun (j : Nat) => cutS nm none (some 6) ++ Str.ofString (toString (j : Int))) n.toNat zs (fun i j hi hj e => tsS_inj i j (by omega) (by omega) (app_inj e)) (by omega)
            have hmem : V.str (cutS nm none (some 6) ++ Str.ofString (toString (j : Int))) ∈ ((nm :: (List.range n.toNat).map fun (j : Nat) => cutS nm none (some 6) ++ Str.ofString (toString (j : Int))).map V.str).filter (fun x => !inV x (zs.map V.str)) := by
              rw [List.mem_filter]
              refine ⟨List.mem_map.mpr ⟨_, List.mem_cons_of_mem _ (List.mem_map.mpr ⟨j, List.mem_range.mpr hj, rfl⟩), rfl⟩, ?_⟩
              rw [inV_strs, decide_eq_false hjn]
              rfl
            cases hfl : ((nm :: (List.range n.toNat).map fun (j : Nat) => cutS nm none (some 6) ++ Str.ofString (toString (j : Int))).map V.str).filter (fun x => !inV x (zs.map V.str)) with
            | nil => rw [hfl] at hmem; exact (List.not_mem_nil hmem).elim
            | cons y ys =>
              rw [hfl] at hd2
              have hy : y ∈ ((nm :: (List.range n.toNat).map fun (j : Nat) => cutS nm none (some 6) ++ Str.ofString (toString (j : Int))).map V.str) := (List.mem_filter.mp (by rw [hfl]; exact List.mem_cons_self)).1
              obtain ⟨s, hs, rfl⟩ := List.mem_map.mp hy
              have hsN : Nm s := by
                rcases List.mem_cons.mp hs with rfl | hs
                · exact hnm
                · obtain ⟨j, hj, rfl⟩ := List.mem_map.mp hs
                  have hj8 : j < 8 := by have := List.mem_range.mp hj; omega
                  have hts := tsS j hj8
                  have hc6 : (cutS nm none (some 6)).length ≤ 6 := len_cut_to nm 6
                  refine ⟨by rw [len_app]; omega, by rw [len_app]; omega, asc_app (asc_cut hnm.2.2) (tsS_asc j hj8)⟩
              walk_at "go"
              refine s_ixL (SqL.of hd2) atI_0 ?_
              walk_at "go"
              have nfD : p ≠ f0 := nf.symm
              have d9 : Dr p H9 := by walk_at "dr"
              have r39 : Rx [p] H3 H9 := by walk_at "rx"
              refine ⟨?_, ?_, zs ++ [s], _, _, _, rfl, ?_, by simp [hzl], ?_⟩
              · exact (r2.trans r39).own hf
              · obtain ⟨a1, a2, a3, a4, a5⟩ := d9
                exact ⟨a1, a2, a3, by rw [upd_ne nfD]; exact a4, a5⟩
              · rw [upd_same, List.map_append]
                rfl
              · intro z hz'
                rcases List.mem_append.mp hz' with h | h
                · exact hza z h
                · obtain rfl : z = s := by simpa using h
                  exact hsN
      · have hz4 : H4 f0 = some (.lst (zs.map V.str)) := by walk_at "hp"
        have base : ∀ H', Rx [p] H3 H' → Dr p H' → N [some (.ref p), some (.int n), some (.ref f0), some x, some (.str nm), o3, none, none] H' := fun H' r' d' => hN _ _ ⟨nm, rfl, hnm, r', d'⟩
        walk_at "go"
        refine s_mk fun q0 H5 hq0 r5 e5 => ?_
        walk_at "go"
        have d5 : Dr p H5 := by walk_at "dr"
        have hz5 : H5 f0 = some (.lst (zs.map V.str)) := by walk_at "hp"
        refine ⟨_, _, .lst (SqL.of hz5) dp_strs, .lst (SqL.of e5) .nil, shaped_strs (fun z hz => (hza z hz).2.2), rfl, ?_⟩
        walk_at "go"
        refine ite_b (fun e => ?_) (fun e => ?_)
        · have hne : zs ≠ [] := by
            rintro rfl
            revert e
            decide +kernel
          walk_at "go"
          refine ⟨p, 3, rfl, d5, by decide, by decide, fun j H6 j0 j3 r6 d6 => ?_⟩
          walk_at "go"
          refine ite_b (fun e' => ?_) (fun e' => ?_)
          · walk_at "go"
            refine ⟨p, _, rfl, d6, .inl ⟨f0, _, rfl, nf, SqL.of (by walk_at "hp"), by simpa using hne, by simp; omega, fun v H7 hv r7 d7 => ?_⟩⟩
            obtain ⟨s, hs, rfl⟩ := List.mem_map.mp hv
            have ls := (hza s hs).len
            have lc7 : (cutS s none (some 7)).length ≤ 7 := len_cut_to s 7
            walk_at "go"
            refine ⟨p, _, rfl, d7, .inr ⟨_, rfl, by decide +kernel, by decide +kernel, fun c H8 hc r8 d8 => ?_⟩⟩
            have hc1 : (⟨#[c]⟩ : Str).length = 1 := rfl
            walk_at "go"
            refine hN _ _ ⟨_, rfl, ⟨by rw [len_app]; omega, by rw [len_app]; omega, asc_app (asc_cut (hza s hs).2.2) (asc_one ((by decide +kernel : asc (Str.ofString "0123456789z")) c hc))⟩, by walk_at "rx", d8⟩
          · walk_at "go"
            exact base _ (by walk_at "rx") d6
        · walk_at "go"
          exact base _ (by walk_at "rx") d5
    · rintro σ H2 ⟨r2, d2, zs, o1, o2, o3, rfl, hz, hzl, hza⟩
      walk_at "go"
      refine k f0 zs H2 hf ?_ hza r2 d2 hz
      have : (rngV n.toNat).length = n.toNat := by simp [rngV]
      omega

theorem ok__law_bent (T : Txt mg) (D : At K mg "_law_bent" s__law_bent) (h__law_pick : Has P w K mg base CX0 "_law_pick" s__law_pick ["_law_heap_here", "_law_things"] 2 (spPick K)) (h__law_roll : Has P w K mg base CX0 "_law_roll" s__law_roll ["_law_heap_here", "_law_many"] 1 spRoll) :
    Has P w K mg base CX0 "_law_bent" s__law_bent ["_law_heap_here", "_law_word"] 3 spBent := by
  have nd := sc__law_bent.nd
  refine has_mk D sc__law_bent (fun vs H Q E h => ?len) (fun _ _ _ _ _ _ us hl => match us, hl with | [_, _], _ => rfl) (fun f cdv A outer s H vs Q E hr hgd h => ?bd)
  case len =>
    obtain ⟨p, z, rfl, _⟩ := h
    rfl
  case bd =>
    obtain ⟨p, z, rfl, hz, d, k⟩ := h
    refine ⟨_, (pss_cons (ps_par (i := 2) (j := 3) (by rfl) nd rfl rfl (by decide) rfl rfl (pa_cons (peH h__law_roll (hr.mono (by decide)) hgd rfl (pa_cons (pv 0) (pa_cons pe_int pa_nil))) (pa_cons (peH h__law_roll (hr.mono (by decide)) hgd rfl (pa_cons (pv 0) (pa_cons (pe_op op_add (pe_callB (lenK K) rfl T.b_len (by decide +kernel) (pa_cons (pv 1) pa_nil)) pe_int) pa_nil))) pa_nil)) (by rfl))
      (pss_cons (ps_set (i := 4) nd rfl (Or.inl rfl) (peH h__law_pick (hr.mono (by decide)) hgd rfl (pa_cons (pv 0) (pa_cons pe_str pa_nil))))
      (pss_cons (ps_if (pt_cmpR op_eq (pv 2) pe_int (nomark _)) (pss_one (ps_ret (pe_op o_addS (pe_op o_addS (pe_slice sl_str (pv 1) po_none (po_some (pv 3))) (pv 4)) (pe_slice sl_str (pv 1) (po_some (pv 3)) po_none)))) pss_nil)
      (pss_one (ps_ret (pe_op o_addS (pe_op o_addS (pe_slice sl_str (pv 1) po_none (po_some (pv 3))) (pe_ix (ixL K) (pe_lst (pa_cons pe_str (pa_cons pe_str (pa_cons (pv 4) pa_nil)))) (pv 2) (fun _ _ => rfl))) (pe_slice sl_str (pv 1) (po_some (pe_op op_add (pv 3) pe_int)) po_none))))))), ?_⟩
    walk_at "go"
    refine ⟨p, 3, rfl, d, by decide, by decide, fun i H1 i0 i3 r1 d1 => ?_⟩
    walk_at "go"
    refine ⟨p, _, rfl, d1, by omega, by omega, fun j H2 j0 j1 r2 d2 => ?_⟩
    walk_at "go"
    refine ⟨p, _, rfl, d2, .inr ⟨_, rfl, by decide +kernel, by decide +kernel, fun c H3 hc r3 d3 => ?_⟩⟩
    have h1 : (⟨#[c]⟩ : Str).length = 1 := rfl
    have l1 := len_cut z none (some j)
    have l2 := len_cut z (some j) none
    have l3 := len_cut z (some (j + 1)) none
    walk_at "go"
    refine ite_b (fun e => ?_) (fun e => ?_)
    · walk_at "go"
      exact k _ _ (by rw [len_app, len_app]; omega) (by walk_at "rx") d3
    · walk_at "go"
      refine s_mk fun w H4 hw r4 e4 => ?_
      have hv : ∃ y : Str, atI [V.str "", V.str "", V.str ⟨#[c]⟩] i = some (.str y) ∧ y.length ≤ 1 := by
        have : i = 0 ∨ i = 1 ∨ i = 2 := by omega
        rcases this with rfl | rfl | rfl
        · exact ⟨_, rfl, by decide⟩
        · exact ⟨_, rfl, by decide⟩
        · exact ⟨_, rfl, by omega⟩
      obtain ⟨y, hv, hy⟩ := hv
      walk_at "go"
      exact k _ _ (by rw [len_app, len_app]; omega) (by walk_at "rx") (by walk_at "dr")

theorem ok__law_is_name (T : Txt mg) (D : At K mg "_law_is_name" s__law_is_name) :
    Has P w K mg base CX0 "_law_is_name" s__law_is_name ["_law_thing"] 1 (spAsk 0 fun _ v => nameV v) := by
  have nd := sc__law_is_name.nd
  refine has_mk D sc__law_is_name (fun vs H Q E h => ?len) (fun _ _ _ _ _ _ us hl => match us, hl with | [_], _ => rfl) (fun f cdv A outer s H vs Q E hr hgd h => ?bd)
  case len =>
    obtain ⟨v, Av, rfl, _⟩ := h
    rfl
  case bd =>
    obtain ⟨v, Av, rfl, t, k⟩ := h
    refine ⟨_, (pss_cons (ps_if (PW.pt (pw_or (pt_not (pt_val (pe_callB (isiK K) rfl T.b_isinstance (by decide +kernel) (pa_cons (pv 0) (pa_cons (pe_bltn (v := .ty "str") rfl T.b_str (by decide +kernel) rfl) pa_nil))))) (pw_or (pt_not (pt_chain op_lt op_lt pe_int (pe_callB (lenK K) rfl T.b_len (by decide +kernel) (pa_cons (pv 0) pa_nil)) pe_int)) (pw_or1 (pt_cmpR op_eq (pv 0) pe_str (nomark _)))))) (pss_one (ps_ret pe_bl)) pss_nil)
      (pss_cons (ps_set (i := 1) nd rfl (Or.inr rfl) pe_str)
      (pss_one (ps_ret (pe_and (pe_cmpR o_sign (pe_ix ix_str (pv 0) pe_int (fun _ _ => rfl)) (pv 1) rfl) (pe_one (pe_callB (allK K) rfl T.b_all (by decide +kernel) (pa_cons (pe_lc (own := [("_law_sign", 2)]) (g := gName 2) (tt := tYes) rfl nd (pi_str (pv 0)) (blkOk_by (N := N__law_is_name) (sc := defScope s__law_is_name) (own := [("_law_sign", 2)]) (by decide +kernel)) (fun _ _ _ _ _ => (pg_name (i := 2) nd rfl (Or.inl rfl))) (fun _ _ _ _ _ => pts_nil) (fun _ _ _ _ _ => (pe_cmpR o_sign (pv 2) (pe_op o_addS (pv 1) pe_str) rfl))) pa_nil)))))))), ?_⟩
    cases hs : isS v with
    | false =>
      walk_at "go"
      refine ite_t (by rw [hs]; rfl) ?_
      walk_at "go"
      exact rtb (k _ (Same.refl _)) (by cases v <;> first | rfl | cases hs)
    | true =>
      obtain ⟨z, rfl⟩ := isS_str hs
      have hz : z.length ≤ 100 := t
      have k0 : ∀ {b : Bool} {H' : Hp}, nameS z = b → Same H H' → Q (.bl b) H' := fun e r => rtb (k _ r) e.symm
      walk_at "go"
      refine ite_f rfl ?_
      walk_at "go"
      refine ite_b (fun e1 => ?_) (fun e1 => ?_)
      · walk_at "go"
        refine ite_b (fun e2 => ?_) (fun e2 => ?_)
        · walk_at "go"
          exact k0 (by simp at e2; simp [nameS]; omega) (Same.refl _)
        · walk_at "go"
          refine ite_b (fun e3 => ?_) (fun e3 => ?_)
          · walk_at "go"
            exact k0 (by simp at e3; simp [nameS, e3]) (Same.refl _)
          · walk_at "go"
            obtain ⟨c, cs, hc⟩ := cons_of_len (z := z) (by simp at e1; omega)
            refine s_ixS (c := c) (sz1 (by omega)) (by rw [hc]; exact atI_0) ?_
            walk_at "go"
            refine ite_b (fun e4 => ?_) (fun e4 => ?_)
            · walk_at "go"
              refine lcP wx_str (sgV (letS ++ digS)) (fun _ _ => trivial) (by rw [strV_len]; omega) ?_ gm_name ?_
              · intro x H1 Q1 hx r q
                obtain ⟨c', rfl⟩ := mem_strV hx
                refine ⟨rfl, ?_⟩
                walk_at "go"
                exact q _ (Same.refl _)
              · intro D H' hD r hd
                walk_at "go"
                rw [sgV_map] at hd
                refine s_all hd ?_
                refine k0 ?_ r
                simp at e1 e2 e3 e4
                simp [nameS, e3, hc]
                intro _ _
                exact ⟨⟨by omega, by omega⟩, e4⟩
            · walk_at "go"
              exact k0 (by simp at e4; simp [nameS, hc]; intros; simp_all [letS]) (Same.refl _)
      · walk_at "go"
        exact k0 (by simp at e1; simp [nameS]; omega) (Same.refl _)

theorem ok__law_is_symbol (T : Txt mg) (D : At K mg "_law_is_symbol" s__law_is_symbol) (h__law_is_name : Has P w K mg base CX0 "_law_is_name" s__law_is_name ["_law_thing"] 1 (spAsk 0 fun _ v => nameV v)) :
    Has P w K mg base CX0 "_law_is_symbol" s__law_is_symbol ["_law_thing"] 2 (spAsk 0 fun _ v => symV v) := by
  have nd := sc__law_is_symbol.nd
  refine has_mk D sc__law_is_symbol (fun vs H Q E h => ?len) (fun _ _ _ _ _ _ us hl => match us, hl with | [_], _ => rfl) (fun f cdv A outer s H vs Q E hr hgd h => ?bd)
  case len =>
    obtain ⟨v, Av, rfl, _⟩ := h
    rfl
  case bd =>
    obtain ⟨v, Av, rfl, t, k⟩ := h
    refine ⟨_, (pss_one (ps_ret (pe_or (peH h__law_is_name (hr.mono (by decide)) hgd rfl (pa_cons (pv 0) pa_nil)) (pe_one (pe_and (pe_callB (isiK K) rfl T.b_isinstance (by decide +kernel) (pa_cons (pv 0) (pa_cons (pe_bltn (v := .ty "str") rfl T.b_str (by decide +kernel) rfl) pa_nil))) (pe_one (pe_cmpR op_eq (pv 0) pe_str (nomark _)))))))), ?_⟩
    walk_at "go"
    refine ⟨v, Av, rfl, t, fun H' r => ?_⟩
    have t' := Th.stab (Same.ag (A := Av) r) t
    walk_at "go"
    refine ite_b (fun e => ?_) (fun e => ?_)
    · exact rtb (k _ r) (by cases v <;> first | cases e | (simp [symV, nameV] at e ⊢; simp [e]))
    · cases hs : isS v with
      | false =>
        walk_at "go"
        refine ite_f hs ?_
        exact rtb (k _ r) (by cases v <;> first | rfl | cases hs)
      | true =>
        obtain ⟨z, rfl⟩ := isS_str hs
        walk_at "go"
        refine ite_t rfl ?_
        walk_at "go"
        exact rtb (k _ r) (by simp [symV, nameV] at e ⊢; simp [e])

theorem ok__law_is_values (T : Txt mg) (D : At K mg "_law_is_values" s__law_is_values) (h__law_is_symbol : Has P w K mg base CX0 "_law_is_symbol" s__law_is_symbol ["_law_thing"] 2 (spAsk 0 fun _ v => symV v)) :
    Has P w K mg base CX0 "_law_is_values" s__law_is_values ["_law_thing"] 3 (spAsk 2 valsV) := by
  have nd := sc__law_is_values.nd
  refine has_mk D sc__law_is_values (fun vs H Q E h => ?len) (fun _ _ _ _ _ _ us hl => match us, hl with | [_], _ => rfl) (fun f cdv A outer s H vs Q E hr hgd h => ?bd)
  case len =>
    obtain ⟨v, Av, rfl, _⟩ := h
    rfl
  case bd =>
    obtain ⟨v, Av, rfl, t, k⟩ := h
    refine ⟨_, (pss_cons (ps_if (pt_not (pt_val (pe_callB (isiK K) rfl T.b_isinstance (by decide +kernel) (pa_cons (pv 0) (pa_cons (pe_bltn (v := .ty "tuple") rfl T.b_tuple (by decide +kernel) rfl) pa_nil))))) (pss_one (ps_ret pe_bl)) pss_nil)
      (pss_cons (ps_set (i := 1) nd rfl (Or.inl rfl) pe_str)
      (pss_cons (ps_for PassesOwn.never rfl (piT K (he := (pv 0))) (pg_name (i := 2) nd rfl (Or.inl rfl))
      (pss_cons (ps_if (PW.pt (pw_or (pt_not (pt_val (pe_callB (isiK K) rfl T.b_isinstance (by decide +kernel) (pa_cons (pv 2) (pa_cons (pe_bltn (v := .ty "tuple") rfl T.b_tuple (by decide +kernel) rfl) pa_nil))))) (pw_or (pt_cmpR op_ne (pe_callB (lenK K) rfl T.b_len (by decide +kernel) (pa_cons (pv 2) pa_nil)) pe_int (nomark _)) (pw_or1 (pt_not (pt_val (peH h__law_is_symbol (hr.mono (by decide)) hgd rfl (pa_cons (pe_ix (ixT K) (pv 2) pe_int (fun _ _ => rfl)) pa_nil)))))))) (pss_one (ps_ret pe_bl)) pss_nil)
      (pss_cons (ps_if (PW.pt (pw_or (pt_val (pe_callB (isiK K) rfl T.b_isinstance (by decide +kernel) (pa_cons (pe_ix (ixT K) (pv 2) pe_int (fun _ _ => rfl)) (pa_cons (pe_bltn (v := .ty "bool") rfl T.b_bool (by decide +kernel) rfl) pa_nil)))) (pw_or1 (pt_not (pt_val (pe_callB (isiK K) rfl T.b_isinstance (by decide +kernel) (pa_cons (pe_ix (ixT K) (pv 2) pe_int (fun _ _ => rfl)) (pa_cons (pe_bltn (v := .ty "int") rfl T.b_int (by decide +kernel) rfl) pa_nil)))))))) (pss_one (ps_ret pe_bl)) pss_nil)
      (pss_cons (ps_if (PW.pt (pw_or (pt_cmpR op_lt (pe_ix (ixT K) (pv 2) pe_int (fun _ _ => rfl)) pe_int (nomark _)) (pw_or1 (pt_not (pt_cmpR o_ltS (pv 1) (pe_ix (ixT K) (pv 2) pe_int (fun _ _ => rfl)) (nomark _)))))) (pss_one (ps_ret pe_bl)) pss_nil)
      (pss_one (ps_set (i := 1) nd rfl (Or.inl rfl) (pe_ix (ixT K) (pv 2) pe_int (fun _ _ => rfl))))))))
      (pss_one (ps_ret pe_bl))))), ?_⟩
    cases ht : tupOf H v with
    | none =>
      walk_at "go"
      refine ite_t (by rw [ht]; rfl) ?_
      walk_at "go"
      exact rtb (k _ (Same.refl _)) (valsV_none ht).symm
    | some xs =>
      obtain ⟨q, rfl, hq⟩ := tupOf_at ht
      obtain ⟨hl, ha⟩ := t.tup hq
      have kF : ∀ H', Same H H' → valsV H (.ref q) = false → Q (.bl false) H' := fun H' r e => rtb (k _ r) e.symm
      walk_at "go"
      refine ite_f (by rw [ht]; rfl) ?_
      walk_at "go"
      refine lc_of (walk_tup (xs := xs)) (fun i σ H1 => Same H H1 ∧ (∀ x ∈ xs.take i, pairV H x = true) ∧ ascS ((xs.map (keyV H)).take i) = true ∧ ∃ (last : Str) (o : Option V), σ = [some (.ref q), some (.str last), o] ∧ ((i = 0 ∧ last = "") ∨ ∃ j, i = j + 1 ∧ (xs.map (keyV H))[j]? = some last)) ⟨Same.refl _, by simp, rfl, _, _, rfl, .inl ⟨rfl, rfl⟩⟩ ?_ ?_ ?_
      · rintro i σ H1 _ ⟨r, _⟩
        exact SqT.of (r _ _ hq)
      · rintro i x σ H1 H2 hi ⟨r, hp, hasc, last, o, rfl, hlast⟩ ⟨rfl, hx⟩
        have hm : x ∈ xs := List.mem_of_getElem? hx
        have tx := ha x hm
        have tx2 : Th Av H2 1 x := Th.stab (Same.ag r) tx
        have etup : tupOf H2 x = tupOf H x := tupOf_stab (Same.ag (A := Av) r) tx
        have bad : pairV H x = false → valsV H (.ref q) = false := fun b => valsV_bad ht hm b
        walk_at "go"
        refine ite_b (fun e => ?_) (fun e => ?_)
        · walk_at "go"
          refine kF _ r (bad (pairV_none ?_))
          rw [etup] at e
          cases e2 : tupOf H x with
          | none => rfl
          | some ys => rw [e2] at e; cases e
        · rw [etup] at e
          cases hy : tupOf H x with
          | none => rw [hy] at e; cases e
          | some ys =>
            obtain ⟨qx, rfl, hqx⟩ := tupOf_at hy
            obtain ⟨hyl, hya⟩ := tx.tup hqx
            have hqx2 := r _ _ hqx
            walk_at "go"
            refine ite_b (fun e1 => ?_) (fun e1 => ?_)
            · walk_at "go"
              exact kF _ r (bad (pairV_len hy (fun z => by simp [z] at e1)))
            · obtain ⟨a, b, rfl⟩ := two_of (xs := ys) (by simp at e1; omega)
              have ta := hya a (by simp)
              have tb := hya b (by simp)
              walk_at "go"
              refine ⟨a, Av, rfl, Th.stab (Same.ag r) ta, fun H3 r3 => ?_⟩
              have r4 : Same H H3 := r.trans r3
              have tb3 := Th.stab (Same.ag (A := Av) r4) tb
              walk_at "go"
              refine ite_b (fun (e2 : (!symV a) = true) => ?_) (fun (e2 : (!symV a) = false) => ?_)
              · walk_at "go"
                exact kF _ r4 (bad (by rw [pairV_of hy]; simp at e2; simp [e2]))
              · obtain ⟨za, c, cs, rfl, hc⟩ := symV_str (v := a) (by simpa using e2)
                walk_at "go"
                refine ite_b (fun e3 => ?_) (fun e3 => ?_)
                · walk_at "go"
                  exact kF _ r4 (bad (by rw [pairV_of hy]; cases b <;> first | (simp [natV]; done) | cases e3))
                · walk_at "go"
                  refine ite_b (fun e4 => ?_) (fun e4 => ?_)
                  · walk_at "go"
                    exact kF _ r4 (bad (by rw [pairV_of hy]; cases b <;> first | (simp [natV]; done) | (simp [isI] at e4)))
                  · obtain ⟨n, rfl⟩ := isI_int (v := b) (by cases b <;> simp_all [isI, isB])
                    walk_at "go"
                    refine ite_b (fun e5 => ?_) (fun e5 => ?_)
                    · walk_at "go"
                      exact kF _ r4 (bad (by rw [pairV_of hy]; simp at e5; simp [natV]; intro _; omega))
                    · have hn : 0 ≤ n := by simp at e5; exact e5
                      have hpx : pairV H (.ref qx) = true := by
                        rw [pairV_of hy]
                        simp at e2
                        simp [natV, e2, hn]
                      have hkey : keyV H (.ref qx) = za := by
                        unfold keyV
                        rw [hy]
                      have hki : (xs.map (keyV H))[i]? = some za := by
                        rw [List.getElem?_map, hx]
                        exact congrArg some hkey
                      have hnext : ascS ((xs.map (keyV H)).take (i + 1)) = (ltS last za) := by
                        rcases hlast with ⟨rfl, rfl⟩ | ⟨j, rfl, hj⟩
                        · have e6 : ltS "" za = true := empty_lt hc
                          rw [e6, List.take_add_one, hki]
                          rfl
                        · rw [asc_more hj hki, hasc]
                          rfl
                      walk_at "go"
                      refine ite_b (fun e6 => ?_) (fun e6 => ?_)
                      · walk_at "go"
                        refine kF _ r4 (valsV_take (i := i + 1) ht ?_)
                        rw [hnext]
                        simpa [ltS] using e6
                      · walk_at "go"
                        refine ⟨r4, ?_, ?_, za, _, rfl, .inr ⟨i, rfl, hki⟩⟩
                        · intro y hy'
                          rw [List.take_add_one, hx] at hy'
                          rcases List.mem_append.mp hy' with h | h
                          · exact hp y h
                          · obtain rfl : y = .ref qx := by simpa using h
                            exact hpx
                        · rw [hnext]
                          simpa [ltS] using e6
      · rintro σ H1 ⟨r, hp, hasc, last, o, rfl, _⟩
        walk_at "go"
        refine rtb (k _ r) ?_
        rw [List.take_length] at hp
        have e1 : xs.all (pairV H) = true := List.all_eq_true.mpr hp
        have e2 : (xs.map (keyV H)).take xs.length = xs.map (keyV H) := List.take_of_length_le (by simp)
        rw [e2] at hasc
        rw [valsV_some ht, e1, hasc]
        rfl

theorem ok__law_pairs (T : Txt mg) (D : At K mg "_law_pairs" s__law_pairs) (h__law_pick : Has P w K mg base CX0 "_law_pick" s__law_pick ["_law_heap_here", "_law_things"] 2 (spPick K)) (h__law_roll : Has P w K mg base CX0 "_law_roll" s__law_roll ["_law_heap_here", "_law_many"] 1 spRoll) :
    Has P w K mg base CX0 "_law_pairs" s__law_pairs ["_law_heap_here", "_law_names_here"] 3 spPairs := by
  have nd := sc__law_pairs.nd
  refine has_mk D sc__law_pairs (fun vs H Q E h => ?len) (fun _ _ _ _ _ _ us hl => match us, hl with | [_, _], _ => rfl) (fun f cdv A outer s H vs Q E hr hgd h => ?bd)
  case len =>
    obtain ⟨p, q, zs, rfl, _⟩ := h
    rfl
  case bd =>
    obtain ⟨p, q, zs, rfl, d, nq, hq, z1, z8, hza, k⟩ := h
    refine ⟨_, (pss_cons (ps_set (i := 2) nd rfl (Or.inr rfl) (pe_lst (pa_cons pe_int (pa_cons pe_int (pa_cons pe_int (pa_cons (pe_op op_pow pe_int pe_int) (pa_cons pe_int (pa_cons pe_int pa_nil))))))))
      (pss_cons (ps_setLc (i := 3) (own := [("_law_name_here", 6)]) (g := gName 6) (tt := tYes) rfl nd rfl rfl (sw_true rfl rfl rfl (by decide +kernel)) (piL K (he := (pe_callB (sortedSK K) rfl T.b_sorted (by decide +kernel) (pa_cons (pv 1) pa_nil)))) (blkOk_by (N := N__law_pairs) (sc := defScope s__law_pairs) (own := [("_law_name_here", 6)]) (by decide +kernel)) (fun _ _ _ _ _ => (pg_name (i := 6) nd rfl (Or.inl rfl))) (fun _ _ _ _ _ => pts_nil) (fun _ _ _ _ _ => (pe_tup (pa_cons (pv 6) (pa_cons (peH h__law_pick (hr.mono (by decide)) hgd rfl (pa_cons (pv 0) (pa_cons (pv 2) pa_nil))) pa_nil)))))
      (pss_cons (ps_par (i := 4) (j := 5) (by rfl) nd rfl rfl (by decide) rfl rfl (pa_cons (peH h__law_roll (hr.mono (by decide)) hgd rfl (pa_cons (pv 0) (pa_cons pe_int pa_nil))) (pa_cons (peH h__law_roll (hr.mono (by decide)) hgd rfl (pa_cons (pv 0) (pa_cons (pe_callB (lenK K) rfl T.b_len (by decide +kernel) (pa_cons (pv 3) pa_nil)) pa_nil))) pa_nil)) (by rfl))
      (pss_cons (ps_if (pt_cmpR op_eq (pv 4) pe_int (nomark _)) (pss_one (ps_ret (pe_callTy (tupOfK K) rfl T.b_tuple (by decide +kernel) (pa_cons (pe_op op_cat (pe_lst (pa_cons (pe_tup (pa_cons pe_str (pa_cons pe_int pa_nil))) pa_nil)) (pv 3)) pa_nil)))) pss_nil)
      (pss_cons (ps_if (pt_cmpR op_eq (pv 4) pe_int (nomark _)) (pss_one (ps_ret (pe_callTy (tupOfK K) rfl T.b_tuple (by decide +kernel) (pa_cons (revLK K (he := (pv 3))) pa_nil)))) pss_nil)
      (pss_cons (ps_if (pt_cmpR op_eq (pv 4) pe_int (nomark _)) (pss_one (ps_ret (pe_callTy (tupOfK K) rfl T.b_tuple (by decide +kernel) (pa_cons (pe_op op_cat (pe_slice (slLK K) (pv 3) po_none (po_some (pe_op op_add (pv 5) pe_int))) (pe_slice (slLK K) (pv 3) (po_some (pv 5)) po_none)) pa_nil)))) pss_nil)
      (pss_cons (ps_if (pt_cmpR op_eq (pv 4) pe_int (nomark _)) (pss_cons (ps_set (i := 6) nd rfl (Or.inl rfl) (pe_ix (ixT K) (pe_ix (ixL K) (pv 3) (pv 5) (fun _ _ => rfl)) pe_int (fun _ _ => rfl)))
      (pss_cons (ps_set (i := 7) nd rfl (Or.inl rfl) (pe_lst (pa_cons (pe_tup (pa_cons (pv 6) (pa_cons (pe_un un_neg pe_int) pa_nil))) (pa_cons (pe_tup (pa_cons (pv 6) (pa_cons pe_bl pa_nil))) (pa_cons (pe_tup (pa_cons (pv 6) (pa_cons pe_str pa_nil))) (pa_cons (pe_lst (pa_cons (pv 6) (pa_cons pe_int pa_nil))) (pa_cons (pe_tup (pa_cons (pv 6) pa_nil)) (pa_cons (pe_tup (pa_cons (pv 6) (pa_cons pe_int (pa_cons pe_int pa_nil)))) (pa_cons (pe_tup (pa_cons pe_int (pa_cons (pv 6) pa_nil))) (pa_cons pe_non pa_nil))))))))))
      (pss_one (ps_ret (pe_callTy (tupOfK K) rfl T.b_tuple (by decide +kernel) (pa_cons (pe_op op_cat (pe_op op_cat (pe_slice (slLK K) (pv 3) po_none (po_some (pv 5))) (pe_lst (pa_cons (peH h__law_pick (hr.mono (by decide)) hgd rfl (pa_cons (pv 0) (pa_cons (pe_op op_cat (pv 7) (pe_lst (pa_cons (pe_tup (pa_cons pe_str (pa_cons pe_int pa_nil))) (pa_cons (pe_tup (pa_cons (pe_op o_addS (pv 6) pe_str) (pa_cons pe_int pa_nil))) pa_nil)))) pa_nil))) pa_nil))) (pe_slice (slLK K) (pv 3) (po_some (pe_op op_add (pv 5) pe_int)) po_none)) pa_nil)))))) pss_nil)
      (pss_one (ps_ret (pe_ifExp (pt_cmpR op_eq (pv 4) pe_int (nomark _)) (pv 3) (pe_callTy (tupOfK K) rfl T.b_tuple (by decide +kernel) (pa_cons (pv 3) pa_nil)))))))))))), ?_⟩
    walk_at "go"
    refine s_mk fun w H1 hw r1 e1 => ?_
    have nw : w ≠ p := d.ne hw
    have d1 : Dr p H1 := by walk_at "dr"
    walk_at "go"
    refine s_sortS (xs := zs) (SqL.of (by walk_at "hp")) (by omega) fun ys q2 H2 pe _ hq2 r2 e2 => ?_
    have nq2 : q2 ≠ p := d1.ne hq2
    have d2 : Dr p H2 := by walk_at "dr"
    have e1' : H2 w = some (.lst [.int 0, .int 1, .int 7, .int (10 ^ 30), .int 40, .int 2]) := by walk_at "hp"
    walk_at "go"
    refine lcD (p := p) Ft.pr (walk_list (xs := ys.map V.str)) d2 (fun H3 r3 => SqL.of (r3 _ _ (by simpa using nq2) e2)) (by simp [pe.length_eq]; omega) ?_ gm_name ?_
    · intro x H3 Q1 hx r3 d3 c
      obtain ⟨z, hz, rfl⟩ := List.mem_map.mp hx
      have hz8 : z.length ≤ 8 := hza z (pe.mem_iff.mp hz)
      refine ⟨rfl, ?_⟩
      walk_at "go"
      refine ⟨p, _, rfl, d3, .inl ⟨w, _, rfl, nw, SqL.of (by walk_at "hp"), by simp, by simp, fun v H4 hv r4 d4 => ?_⟩⟩
      have : ∃ i, v = .int i := by
        simp only [List.mem_cons, List.not_mem_nil, or_false] at hv
        rcases hv with rfl | rfl | rfl | rfl | rfl | rfl <;> exact ⟨_, rfl⟩
      obtain ⟨i, rfl⟩ := this
      walk_at "go"
      refine s_mk fun t H5 ht r5 e5 => ?_
      exact c _ _ (by walk_at "rx") (by walk_at "dr") ⟨t, z, i, rfl, nAlD r4 d4 ht, e5, hz8⟩
    · intro D H3 vs hD r3 d3 hd hvl hP
      have nD : D ≠ p := d2.ne hD
      have rH2 : Hide (Rx [p] H H2) := ⟨by walk_at "rx"⟩
      have rH3 : Hide (Rx [p] H H3) := ⟨by walk_at "rx"⟩
      have hlen : vs.length = zs.length := by rw [hvl, List.length_map, pe.length_eq]
      have hP3 : ∀ y ∈ vs, Pr (Al H) y H3 := fun y hy => Ft.pr.anti _ _ _ _ (fun a ha => .inl (Al.mono rH2.get d2 a ha)) (hP y hy)
      have nAD : ¬ Al H D := nAlD rH2.get d2 hD
      have up : ∀ {H' : Hp}, Rx [p] H3 H' → ∀ y ∈ vs, Th (Al H) H' 1 y := fun r y hy => Th.stab (r.ag (by simpa using d.al)) (hP3 y hy).th
      walk_at "go"
      refine ⟨p, 8, rfl, d3, by decide, by decide, fun wy H4 w0 w8 r4 d4 => ?_⟩
      walk_at "go"
      refine ⟨p, _, rfl, d4, by omega, by omega, fun at_ H5 a0 a1 r5 d5 => ?_⟩
      have rH5 : Hide (Rx [p] H H5) := ⟨by walk_at "rx"⟩
      have hd5 : H5 D = some (.lst vs) := by walk_at "hp"
      walk_at "go"
      refine ite_b (fun e => ?_) (fun e => ?_)
      · walk_at "go"
        refine s_mk fun t1 H6 ht1 r6 e6 => ?_
        have n1 : ¬ Al H t1 := nAlD rH5.get d5 ht1
        walk_at "go"
        refine s_mk fun l1 H7 hl1 r7 e7 => ?_
        walk_at "go"
        refine s_cat (by walk_at "hp") (by walk_at "hp") (sz1 (by simp; omega)) fun l2 H8 hl2 r8 e8 => ?_
        walk_at "go"
        refine s_tupL (SqL.of e8) fun t2 H9 ht2 r9 e9 => ?_
        have n2 : ¬ Al H t2 := nAlD (show Rx [p] H H8 by walk_at "rx") (by walk_at "dr") ht2
        refine k _ _ (th_tup n2 e9 (by simp; omega) ?_) (by walk_at "rx") (by walk_at "dr")
        intro x hx
        rcases List.mem_append.mp hx with h | h
        · obtain rfl : x = .ref t1 := by simpa using h
          refine th_tup n1 (by walk_at "hp") (by simp) ?_
          intro y hy
          have : y = .str "@" ∨ y = .int 3 := by simpa using hy
          rcases this with rfl | rfl
          · exact Th.str (by decide)
          · exact Th.int
        · exact up (by walk_at "rx") x h
      · walk_at "go"
        refine ite_b (fun e => ?_) (fun e => ?_)
        · walk_at "go"
          refine s_rev (SqL.of hd5) fun l2 H8 hl2 r8 e8 => ?_
          walk_at "go"
          refine s_tupL (SqL.of e8) fun t2 H9 ht2 r9 e9 => ?_
          have n2 : ¬ Al H t2 := nAlD (show Rx [p] H H8 by walk_at "rx") (by walk_at "dr") ht2
          refine k _ _ (th_tup n2 e9 (by simp; omega) ?_) (by walk_at "rx") (by walk_at "dr")
          intro x hx
          exact up (by walk_at "rx") x (List.mem_reverse.mp hx)
        · walk_at "go"
          refine ite_b (fun e => ?_) (fun e => ?_)
          · walk_at "go"
            refine s_slL (SqL.of hd5) fun l1 H6 hl1 r6 e6 => ?_
            have hd6 : H6 D = some (.lst vs) := by walk_at "hp"
            walk_at "go"
            refine s_slL (SqL.of hd6) fun l2 H7 hl2 r7 e7 => ?_
            have c1 := cutV_length vs none (some (at_ + 1))
            have c2 := cutV_length vs (some at_) none
            walk_at "go"
            refine s_cat (by walk_at "hp") (by walk_at "hp") (sz1 (by omega)) fun l3 H8 hl3 r8 e8 => ?_
            walk_at "go"
            refine s_tupL (SqL.of e8) fun t2 H9 ht2 r9 e9 => ?_
            have n2 : ¬ Al H t2 := nAlD (show Rx [p] H H8 by walk_at "rx") (by walk_at "dr") ht2
            refine k _ _ (th_tup n2 e9 (by rw [List.length_append]; omega) ?_) (by walk_at "rx") (by walk_at "dr")
            intro x hx
            rcases List.mem_append.mp hx with h | h
            · exact up (by walk_at "rx") x (cutV_mem h)
            · exact up (by walk_at "rx") x (cutV_mem h)
          · walk_at "go"
            refine ite_b (fun e => ?_) (fun e => ?_)
            · obtain ⟨y, hy, hym, _⟩ := atI_ofI a0 a1
              obtain ⟨t0, z, i, rfl, n0, ht0, hz8⟩ := hP3 y hym
              have ht5 : H5 t0 = some (.tup [.str z, .int i]) := (r4.trans r5) _ _ (by simpa using fun z => n0 (by rw [z]; exact d.al)) ht0
              walk_at "go"
              refine s_mk fun t1 H6 g1 r6 e6 => ?_
              walk_at "go"
              refine s_mk fun t2 H7 g2 r7 e7 => ?_
              walk_at "go"
              refine s_mk fun t3 H8 g3 r8 e8 => ?_
              walk_at "go"
              refine s_mk fun t4 H9 g4 r9 e9 => ?_
              walk_at "go"
              refine s_mk fun t5 H10 g5 r10 e10 => ?_
              walk_at "go"
              refine s_mk fun t6 H11 g6 r11 e11 => ?_
              walk_at "go"
              refine s_mk fun t7 H12 g7 r12 e12 => ?_
              walk_at "go"
              refine s_mk fun t8 H13 g8 r13 e13 => ?_
              have d13 : Dr p H13 := by walk_at "dr"
              have hd13 : H13 D = some (.lst vs) := by walk_at "hp"
              walk_at "go"
              refine s_slL (SqL.of hd13) fun l1 H14 g9 r14 e14 => ?_
              have c1 := cutV_length vs none (some at_)
              have c2 := cutV_length vs (some (at_ + 1)) none
              have hdash : (Str.ofString "-").length = 1 := by decide
              walk_at "go"
              refine s_mk fun t9 H15 g10 r15 e15 => ?_
              walk_at "go"
              refine s_mk fun t10 H16 g11 r16 e16 => ?_
              walk_at "go"
              refine s_mk fun l2 H17 g12 r17 e17 => ?_
              walk_at "go"
              refine s_cat (show H17 t8 = some (.lst [.ref t1, .ref t2, .ref t3, .ref t4, .ref t5, .ref t6, .ref t7, .non]) by walk_at "hp") e17 (sz1 (by simp)) fun l3 H18 g13 r18 e18 => ?_
              have d17 : Dr p H17 := by walk_at "dr"
              have d18 : Dr p H18 := by walk_at "dr"
              walk_at "go"
              refine ⟨p, _, rfl, d18, .inl ⟨l3, _, rfl, d17.ne g13, SqL.of e18, by simp, by simp, fun v H19 hv r19 d19 => ?_⟩⟩
              have n1 : ¬ Al H t1 := nAlD rH5.get d5 g1
              have n2 : ¬ Al H t2 := nAlD (show Rx [p] H H6 by walk_at "rx") (by walk_at "dr") g2
              have n3 : ¬ Al H t3 := nAlD (show Rx [p] H H7 by walk_at "rx") (by walk_at "dr") g3
              have n4 : ¬ Al H t4 := nAlD (show Rx [p] H H8 by walk_at "rx") (by walk_at "dr") g4
              have n5 : ¬ Al H t5 := nAlD (show Rx [p] H H9 by walk_at "rx") (by walk_at "dr") g5
              have n6 : ¬ Al H t6 := nAlD (show Rx [p] H H10 by walk_at "rx") (by walk_at "dr") g6
              have n7 : ¬ Al H t7 := nAlD (show Rx [p] H H11 by walk_at "rx") (by walk_at "dr") g7
              have n9 : ¬ Al H t9 := nAlD (show Rx [p] H H14 by walk_at "rx") (by walk_at "dr") g10
              have n10 : ¬ Al H t10 := nAlD (show Rx [p] H H15 by walk_at "rx") (by walk_at "dr") g11
              have hz' : z.length ≤ 100 := by omega
              have hv18 : Th (Al H) H18 1 v := by
                have hv : v = .ref t1 ∨ v = .ref t2 ∨ v = .ref t3 ∨ v = .ref t4 ∨ v = .ref t5 ∨ v = .ref t6 ∨ v = .ref t7 ∨ v = .non ∨ v = .ref t9 ∨ v = .ref t10 := by simpa using hv
                rcases hv with rfl | rfl | rfl | rfl | rfl | rfl | rfl | rfl | rfl | rfl
                · refine th_tup n1 (by walk_at "hp") (by simp) (fun y hy => ?_)
                  have : y = .str z ∨ y = .int (-1) := by simpa using hy
                  rcases this with rfl | rfl <;> first | exact Th.str hz' | exact Th.int
                · refine th_tup n2 (by walk_at "hp") (by simp) (fun y hy => ?_)
                  have : y = .str z ∨ y = .bl true := by simpa using hy
                  rcases this with rfl | rfl <;> first | exact Th.str hz' | exact Th.bl
                · refine th_tup n3 (by walk_at "hp") (by simp) (fun y hy => ?_)
                  have : y = .str z ∨ y = .str "1" := by simpa using hy
                  rcases this with rfl | rfl <;> first | exact Th.str hz' | exact Th.str (by decide)
                · exact th_lst n4 (by walk_at "hp")
                · refine th_tup n5 (by walk_at "hp") (by simp) (fun y hy => ?_)
                  obtain rfl : y = .str z := by simpa using hy
                  exact Th.str hz'
                · refine th_tup n6 (by walk_at "hp") (by simp) (fun y hy => ?_)
                  have : y = .str z ∨ y = .int 1 := by simpa using hy
                  rcases this with rfl | rfl <;> first | exact Th.str hz' | exact Th.int
                · refine th_tup n7 (by walk_at "hp") (by simp) (fun y hy => ?_)
                  have : y = .int 1 ∨ y = .str z := by simpa using hy
                  rcases this with rfl | rfl <;> first | exact Th.str hz' | exact Th.int
                · exact Th.non
                · refine th_tup n9 (by walk_at "hp") (by simp) (fun y hy => ?_)
                  have : y = .str "view" ∨ y = .int 1 := by simpa using hy
                  rcases this with rfl | rfl <;> first | exact Th.str (by decide) | exact Th.int
                · refine th_tup n10 (by walk_at "hp") (by simp) (fun y hy => ?_)
                  have : y = .str (z ++ "-") ∨ y = .int 1 := by simpa using hy
                  rcases this with rfl | rfl
                  · exact Th.str (by rw [len_app]; omega)
                  · exact Th.int
              have nl1 : l1 ≠ p := d13.ne g9
              have hd19 : H19 D = some (.lst vs) := by walk_at "hp"
              have hv19 : Th (Al H) H19 1 v := Th.stab (r19.ag (by simpa using d.al)) hv18
              walk_at "go"
              refine s_mk fun l4 H20 g14 r20 e20 => ?_
              walk_at "go"
              refine s_cat (show H20 l1 = some (.lst (cutV vs none (some at_))) by walk_at "hp") e20 (sz1 (by simp; omega)) fun l5 H21 g15 r21 e21 => ?_
              have hd21 : H21 D = some (.lst vs) := by walk_at "hp"
              walk_at "go"
              refine s_slL (SqL.of hd21) fun l6 H22 g16 r22 e22 => ?_
              walk_at "go"
              refine s_cat (by walk_at "hp") e22 (sz1 (by simp; omega)) fun l7 H23 g17 r23 e23 => ?_
              walk_at "go"
              refine s_tupL (SqL.of e23) fun t2 H24 ht2 r24 e24 => ?_
              have nt2 : ¬ Al H t2 := nAlD (show Rx [p] H H23 by walk_at "rx") (by walk_at "dr") ht2
              refine k _ _ (th_tup nt2 e24 (by simp; omega) ?_) (by walk_at "rx") (by walk_at "dr")
              intro x hx
              rcases List.mem_append.mp hx with h | h
              · rcases List.mem_append.mp h with h | h
                · exact up (by walk_at "rx") x (cutV_mem h)
                · obtain rfl : x = v := by simpa using h
                  exact Th.stab (Same.ag (show Same H19 H24 by walk_at "sm")) hv19
              · exact up (by walk_at "rx") x (cutV_mem h)
            · walk_at "go"
              refine ite_b (fun e => ?_) (fun e => ?_)
              · walk_at "go"
                exact k _ _ (th_lst nAD hd5) (by walk_at "rx") d5
              · walk_at "go"
                refine s_tupL (SqL.of hd5) fun t2 H9 ht2 r9 e9 => ?_
                have n2 : ¬ Al H t2 := nAlD rH5.get d5 ht2
                refine k _ _ (th_tup n2 e9 (by omega) ?_) (by walk_at "rx") (by walk_at "dr")
                intro x hx
                exact up (by walk_at "rx") x hx

theorem ok__law_odd (T : Txt mg) (D : At K mg "_law_odd" s__law_odd) (h__law_pick : Has P w K mg base CX0 "_law_pick" s__law_pick ["_law_heap_here", "_law_things"] 2 (spPick K)) :
    Has P w K mg base CX0 "_law_odd" s__law_odd ["_law_heap_here", "_law_word"] 3 spOdd := by
  have nd := sc__law_odd.nd
  refine has_mk D sc__law_odd (fun vs H Q E h => ?len) (fun _ _ _ _ _ _ us hl => match us, hl with | [_, _], _ => rfl) (fun f cdv A outer s H vs Q E hr hgd h => ?bd)
  case len =>
    obtain ⟨p, z, rfl, _⟩ := h
    rfl
  case bd =>
    obtain ⟨p, z, rfl, hz, d, k⟩ := h
    refine ⟨_, (pss_cons (ps_set (i := 2) nd rfl (Or.inl rfl) (pe_lst (pa_cons pe_non (pa_cons pe_bl (pa_cons pe_int (pa_cons (pe_un un_neg pe_int) (pa_cons (pe_tup (pa_cons (pv 1) pa_nil)) (pa_cons (pe_lst (pa_cons (pv 1) pa_nil)) (pa_cons (pe_lst pa_nil) (pa_cons pe_dnewK (pa_cons (pe_disp (pps_cons (pv 1) pe_int pps_nil) (by rfl) (by rfl) (fun z => by cases z) (by decide)) (pa_cons (pe_tup pa_nil) (pa_cons (pe_tup (pa_cons (pv 1) (pa_cons pe_int pa_nil))) (pa_cons (pe_lst (pa_cons (pe_tup (pa_cons (pv 1) (pa_cons pe_int pa_nil))) pa_nil)) (pa_cons pe_str (pa_cons pe_str (pa_cons pe_str (pa_cons pe_str pa_nil))))))))))))))))))
      (pss_one (ps_ret (peH h__law_pick (hr.mono (by decide)) hgd rfl (pa_cons (pv 0) (pa_cons (pv 2) pa_nil)))))), ?_⟩
    walk_at "go"
    refine s_mk fun q1 H1 h1 r1 e1 => ?_
    walk_at "go"
    refine s_mk fun q2 H2 h2 r2 e2 => ?_
    walk_at "go"
    refine s_mk fun q3 H3 h3 r3 e3 => ?_
    walk_at "go"
    refine s_mk fun q4 H4 h4 r4 e4 => ?_
    walk_at "go"
    refine s_disp1 rfl fun q5 H5 h5 r5 e5 => ?_
    walk_at "go"
    refine s_mk fun q6 H6 h6 r6 e6 => ?_
    walk_at "go"
    refine s_mk fun q7 H7 h7 r7 e7 => ?_
    walk_at "go"
    refine s_mk fun q8 H8 h8 r8 e8 => ?_
    walk_at "go"
    refine s_mk fun q9 H9 h9 r9 e9 => ?_
    walk_at "go"
    refine s_mk fun q H10 hq r10 e10 => ?_
    walk_at "go"
    have d10 : Dr p H10 := by walk_at "dr"
    have d9 : Dr p H9 := by walk_at "dr"
    refine ⟨p, _, rfl, d10, .inl ⟨q, _, rfl, d9.ne hq, SqL.of (by walk_at "hp"), by simp, by simp, fun v H' hv r' d' => ?_⟩⟩
    refine k v H' ?_ (by walk_at "rx") d'
    have n1 : q1 ≠ p := d.ne h1
    have n2 : q2 ≠ p := (show Dr p H1 by walk_at "dr").ne h2
    have n3 : q3 ≠ p := (show Dr p H2 by walk_at "dr").ne h3
    have n4 : q4 ≠ p := (show Dr p H3 by walk_at "dr").ne h4
    have n5 : q5 ≠ p := (show Dr p H4 by walk_at "dr").ne h5
    have n6 : q6 ≠ p := (show Dr p H5 by walk_at "dr").ne h6
    have n7 : q7 ≠ p := (show Dr p H6 by walk_at "dr").ne h7
    have n8 : q8 ≠ p := (show Dr p H7 by walk_at "dr").ne h8
    have n9 : q9 ≠ p := (show Dr p H8 by walk_at "dr").ne h9
    have hz' : z.length ≤ 100 := by omega
    simp only [List.mem_cons, List.not_mem_nil, or_false] at hv
    rcases hv with rfl | rfl | rfl | rfl | rfl | rfl | rfl | rfl | rfl | rfl | rfl | rfl | rfl | rfl | rfl | rfl
    · trivial
    · trivial
    · trivial
    · trivial
    · refine ⟨nAl (Same.refl _) h1, .inr (.inr ⟨_, by walk_at "hp", by simp, ?_⟩)⟩
      intro x hx
      obtain rfl : x = .str z := by simpa using hx
      exact hz'
    · exact ⟨nAl (by walk_at "sm") h2, .inl ⟨_, by walk_at "hp"⟩⟩
    · exact ⟨nAl (by walk_at "sm") h3, .inl ⟨_, by walk_at "hp"⟩⟩
    · exact ⟨nAl (by walk_at "sm") h4, .inr (.inl ⟨_, by walk_at "hp"⟩)⟩
    · exact ⟨nAl (by walk_at "sm") h5, .inr (.inl ⟨_, by walk_at "hp"⟩)⟩
    · refine ⟨nAl (by walk_at "sm") h6, .inr (.inr ⟨_, by walk_at "hp", by simp, ?_⟩)⟩
      intro x hx
      exact (List.not_mem_nil hx).elim
    · refine ⟨nAl (by walk_at "sm") h7, .inr (.inr ⟨_, by walk_at "hp", by simp, ?_⟩)⟩
      intro x hx
      have : x = .str z ∨ x = .int 1 := by simpa using hx
      rcases this with rfl | rfl
      · exact hz'
      · trivial
    · exact ⟨nAl (by walk_at "sm") h9, .inl ⟨_, by walk_at "hp"⟩⟩
    all_goals (show (Str.ofString _).length ≤ 100; decide)

theorem ok__law_right (T : Txt mg) (D : At K mg "_law_right" s__law_right) (h__law_bent : Has P w K mg base CX0 "_law_bent" s__law_bent ["_law_heap_here", "_law_word"] 3 spBent) (h__law_is_name : Has P w K mg base CX0 "_law_is_name" s__law_is_name ["_law_thing"] 1 (spAsk 0 fun _ v => nameV v)) (h__law_is_symbol : Has P w K mg base CX0 "_law_is_symbol" s__law_is_symbol ["_law_thing"] 2 (spAsk 0 fun _ v => symV v)) (h__law_is_values : Has P w K mg base CX0 "_law_is_values" s__law_is_values ["_law_thing"] 3 (spAsk 2 valsV)) (h__law_names : Has P w K mg base CX0 "_law_names" s__law_names ["_law_heap_here", "_law_many"] 4 spNames) (h__law_odd : Has P w K mg base CX0 "_law_odd" s__law_odd ["_law_heap_here", "_law_word"] 3 spOdd) (h__law_pairs : Has P w K mg base CX0 "_law_pairs" s__law_pairs ["_law_heap_here", "_law_names_here"] 3 spPairs) (h__law_roll : Has P w K mg base CX0 "_law_roll" s__law_roll ["_law_heap_here", "_law_many"] 1 spRoll) (h_is_name : Has P w K mg base CX0 "is_name" s_is_name ["value"] 1 (spAsk 0 fun _ v => nameV v)) (h_is_symbol : Has P w K mg base CX0 "is_symbol" s_is_symbol ["value"] 2 (spAsk 0 fun _ v => symV v)) (h_is_values : Has P w K mg base CX0 "is_values" s_is_values ["value"] 4 (spAsk 2 valsV)) :
    Has P w K mg base CX0 "_law_right" s__law_right ["_law_heap_here"] 5 spRight := by
  have hz_is_name := h_is_name.z (ks := ["value"]) (g := fun ws => ws) (gV := fun ws => ws) (fun _ _ _ _ _ _ ws hl => match ws, hl with | [_], _ => rfl) (fun h => h)
  have hz_is_symbol := h_is_symbol.z (ks := ["value"]) (g := fun ws => ws) (gV := fun ws => ws) (fun _ _ _ _ _ _ ws hl => match ws, hl with | [_], _ => rfl) (fun h => h)
  have hz_is_values := h_is_values.z (ks := ["value"]) (g := fun ws => ws) (gV := fun ws => ws) (fun _ _ _ _ _ _ ws hl => match ws, hl with | [_], _ => rfl) (fun h => h)
  have nd := sc__law_right.nd
  refine has_mk D sc__law_right (fun vs H Q E h => ?len) (fun _ _ _ _ _ _ us hl => match us, hl with | [_], _ => rfl) (fun f cdv A outer s H vs Q E hr hgd h => ?bd)
  case len =>
    obtain ⟨p, rfl, _⟩ := h
    rfl
  case bd =>
    obtain ⟨p, rfl, d, k⟩ := h
    refine ⟨_, (pss_cons (ps_set (i := 1) nd rfl (Or.inr rfl) (peH h__law_names (hr.mono (by decide)) hgd rfl (pa_cons (pv 0) (pa_cons (pe_op op_add pe_int (peH h__law_roll (hr.mono (by decide)) hgd rfl (pa_cons (pv 0) (pa_cons pe_int pa_nil)))) pa_nil))))
      (pss_cons (ps_set (i := 2) nd rfl (Or.inl rfl) (pe_op op_cat (pe_op op_cat (pv 1) (pe_lc (own := [("_law_name_here", 6)]) (g := gName 6) (tt := tYes) rfl nd (piL K (he := (pv 1))) (blkOk_by (N := N__law_right) (sc := defScope s__law_right) (own := [("_law_name_here", 6)]) (by decide +kernel)) (fun _ _ _ _ _ => (pg_name (i := 6) nd rfl (Or.inl rfl))) (fun _ _ _ _ _ => pts_nil) (fun _ _ _ _ _ => (peH h__law_bent (hr.mono (by decide)) hgd rfl (pa_cons (pv 0) (pa_cons (pv 6) pa_nil)))))) (pe_lst (pa_cons (peH h__law_odd (hr.mono (by decide)) hgd rfl (pa_cons (pv 0) (pa_cons (pe_ix (ixL K) (pv 1) pe_int (fun _ _ => rfl)) pa_nil))) (pa_cons (peH h__law_odd (hr.mono (by decide)) hgd rfl (pa_cons (pv 0) (pa_cons (pe_ix (ixL K) (pv 1) pe_int (fun _ _ => rfl)) pa_nil))) pa_nil)))))
      (pss_cons (ps_set (i := 2) nd rfl (Or.inl rfl) (pe_op op_cat (pe_op op_cat (pv 2) (pe_lc (own := [("_law_turn", 7)]) (g := gName 7) (tt := tYes) rfl nd (pi_range1 rfl T.b_range (pa_cons pe_int pa_nil)) (blkOk_by (N := N__law_right) (sc := defScope s__law_right) (own := [("_law_turn", 7)]) (by decide +kernel)) (fun _ _ _ _ _ => (pg_name (i := 7) nd rfl (Or.inl rfl))) (fun _ _ _ _ _ => pts_nil) (fun _ _ _ _ _ => (peH h__law_pairs (hr.mono (by decide)) hgd rfl (pa_cons (pv 0) (pa_cons (pv 1) pa_nil)))))) (pe_lst (pa_cons pe_str (pa_cons pe_str (pa_cons pe_str (pa_cons (pe_tup pa_nil) (pa_cons (pe_op o_mulS pe_str pe_int) pa_nil))))))))
      (pss_cons (ps_for PassesOwn.never rfl (piL K (he := (pe_op op_cat (pv 2) (revLK K (he := (pv 2)))))) (pg_name (i := 3) nd rfl (Or.inl rfl))
      (pss_cons (ps_set (i := 4) nd rfl (Or.inl rfl) (pe_lst (pa_cons (peH h_is_name (hr.mono (by decide)) hgd rfl (pa_cons (pv 3) pa_nil)) (pa_cons (peHZ hz_is_name (hr.mono (by decide)) hgd rfl (pk_cons (pv 3) pk_nil)) (pa_cons (peH h_is_symbol (hr.mono (by decide)) hgd rfl (pa_cons (pv 3) pa_nil)) (pa_cons (peHZ hz_is_symbol (hr.mono (by decide)) hgd rfl (pk_cons (pv 3) pk_nil)) pa_nil))))))
      (pss_cons (ps_set (i := 4) nd rfl (Or.inl rfl) (pe_op op_cat (pv 4) (pe_lst (pa_cons (peH h_is_values (hr.mono (by decide)) hgd rfl (pa_cons (pv 3) pa_nil)) (pa_cons (peHZ hz_is_values (hr.mono (by decide)) hgd rfl (pk_cons (pv 3) pk_nil)) pa_nil)))))
      (pss_cons (ps_set (i := 5) nd rfl (Or.inl rfl) (pe_lst (pa_cons (peH h__law_is_name (hr.mono (by decide)) hgd rfl (pa_cons (pv 3) pa_nil)) (pa_cons (peH h__law_is_symbol (hr.mono (by decide)) hgd rfl (pa_cons (pv 3) pa_nil)) (pa_cons (peH h__law_is_values (hr.mono (by decide)) hgd rfl (pa_cons (pv 3) pa_nil)) pa_nil)))))
      (pss_one (ps_if (pt_cmpR op_ne (pe_callB (reprK K (hgd := hgd) (hu := hr.units)) rfl T.b_repr (by decide +kernel) (pa_cons (pv 4) pa_nil)) (pe_callB (reprK K (hgd := hgd) (hu := hr.units)) rfl T.b_repr (by decide +kernel) (pa_cons (pe_lst (pa_cons (pe_ix (ixL K) (pv 5) pe_int (fun _ _ => rfl)) (pa_cons (pe_ix (ixL K) (pv 5) pe_int (fun _ _ => rfl)) (pa_cons (pe_ix (ixL K) (pv 5) pe_int (fun _ _ => rfl)) (pa_cons (pe_ix (ixL K) (pv 5) pe_int (fun _ _ => rfl)) (pa_cons (pe_ix (ixL K) (pv 5) pe_int (fun _ _ => rfl)) (pa_cons (pe_ix (ixL K) (pv 5) pe_int (fun _ _ => rfl)) pa_nil))))))) pa_nil)) (nomark _)) (pss_one (ps_ret pe_bl)) pss_nil))))))
      (pss_one (ps_ret pe_bl)))))), ?_⟩
    have pA : ∀ a ∈ [p], Al H a := by simpa using d.al
    walk_at "go"
    refine ⟨p, 4, rfl, d, by decide, by decide, fun i H1 i0 i4 r1 d1 => ?_⟩
    walk_at "go"
    refine ⟨p, _, rfl, d1, by omega, by omega, fun q zs H2 hq hl hza r2 d2 e2 => ?_⟩
    have nq : q ≠ p := d1.ne hq
    have hz8 : ∀ z ∈ zs, z.length ≤ 8 := fun z hz => (hza z hz).len
    walk_at "go"
    refine lcD (p := p) (Ft.val (P := fun v => ∃ z : Str, v = .str z ∧ z.length ≤ 20)) (walk_list (xs := zs.map V.str)) d2 (fun H3 r3 => SqL.of (r3 _ _ (by simpa using nq) e2)) (by simp; omega) ?_ gm_name ?_
    · intro x H3 Q1 hx r3 d3 c
      obtain ⟨z, hz, rfl⟩ := List.mem_map.mp hx
      refine ⟨rfl, ?_⟩
      walk_at "go"
      exact ⟨p, z, rfl, hz8 z hz, d3, fun y H4 hy r4 d4 => c _ _ r4 d4 ⟨y, rfl, hy⟩⟩
    · intro D3 H3 bs hD3 r3 d3 e3 hbl hbP
      have nD3 : D3 ≠ p := d2.ne hD3
      walk_at "go"
      refine s_cat (show H3 q = some (.lst (zs.map V.str)) by walk_at "hp") e3 (sz1 (by simp [hbl]; omega)) fun l4 H4 hl4 r4 e4 => ?_
      have d4 : Dr p H4 := by walk_at "dr"
      have nl4 : l4 ≠ p := d3.ne hl4
      obtain ⟨z0, zs', rfl⟩ : ∃ z0 zs', zs = z0 :: zs' := by
        cases zs with
        | nil => simp at hl; omega
        | cons a b => exact ⟨a, b, rfl⟩
      have hz0 : z0.length ≤ 8 := hz8 z0 (by simp)
      have q4 : H4 q = some (.lst (V.str z0 :: zs'.map V.str)) := by walk_at "hp"
      have rH4 : Hide (Rx [p] H H4) := ⟨by walk_at "rx"⟩
      walk_at "go"
      refine s_ixL (SqL.of q4) atI_0 ?_
      walk_at "go"
      refine ⟨p, z0, rfl, hz0, d4, fun v1 H5 t1 r5 d5 => ?_⟩
      have q5 : H5 q = some (.lst (V.str z0 :: zs'.map V.str)) := by walk_at "hp"
      have rH5 : Hide (Rx [p] H H5) := ⟨rH4.get.trans r5⟩
      have t1' : Th (Al H) H5 2 v1 := Th.anti (Al.mono rH4.get d4) t1
      walk_at "go"
      refine s_ixL (SqL.of q5) atI_0 ?_
      walk_at "go"
      refine ⟨p, z0, rfl, hz0, d5, fun v2 H6 t2 r6 d6 => ?_⟩
      have rH6 : Hide (Rx [p] H H6) := ⟨rH5.get.trans r6⟩
      have t2' : Th (Al H) H6 2 v2 := Th.anti (Al.mono rH5.get d5) t2
      have t1'' : Th (Al H) H6 2 v1 := Th.stab (r6.ag pA) t1'
      walk_at "go"
      refine s_mk fun l7 H7 hl7 r7 e7 => ?_
      walk_at "go"
      refine s_cat (show H7 l4 = some (.lst ((z0 :: zs').map V.str ++ bs)) by walk_at "hp") e7 (sz1 (by simp [hbl]; simp at hl; omega)) fun l8 H8 hl8 r8 e8 => ?_
      have d7 : Dr p H7 := by walk_at "dr"
      have nl8 : l8 ≠ p := d7.ne hl8
      have d8 : Dr p H8 := by walk_at "dr"
      have rH8 : Hide (Rx [p] H H8) := ⟨(rH6.get.trans (Rx.same r7)).trans (Rx.same r8)⟩
      have q8 : H8 q = some (.lst ((z0 :: zs').map V.str)) := by walk_at "hp"
      obtain ⟨xs8, hx8⟩ : ∃ xs : List V, xs = (z0 :: zs').map V.str ++ bs ++ [v1, v2] := ⟨_, rfl⟩
      have hl8 : xs8.length ≤ 30 := by rw [hx8]; simp [hbl]; simp at hl; omega
      have ht8 : ∀ x ∈ xs8, Th (Al H) H8 2 x := by
        intro x hx
        rw [hx8] at hx
        rcases List.mem_append.mp hx with h | h
        · rcases List.mem_append.mp h with h | h
          · obtain ⟨z, hz, rfl⟩ := List.mem_map.mp h
            exact Th.str (by have := hz8 z hz; omega)
          · obtain ⟨z, rfl, hz⟩ := hbP x h
            exact Th.str (by omega)
        · have : x = v1 ∨ x = v2 := by simpa using h
          have rs : Same H6 H8 := by walk_at "sm"
          rcases this with rfl | rfl
          · exact Th.stab (Same.ag rs) t1''
          · exact Th.stab (Same.ag rs) t2'
      rw [← hx8] at e8
      walk_at "go"
      refine lcD (p := p) (Ft.th (n := 2)) (wx_rng (n := 4)) d8 (fun _ _ => trivial) (by simp [rngV]) ?_ gm_name ?_
      · intro x H9 Q1 hx r9 d9 c
        refine ⟨rfl, ?_⟩
        walk_at "go"
        exact ⟨p, q, z0 :: zs', rfl, d9, nq, r9 _ _ (by simpa using nq) q8, by simp, by simp at hl ⊢; omega, hz8, fun v H10 t10 r10 d10 => c _ _ r10 d10 t10⟩
      · intro D9 H9 ps hD9 r9 d9 e9 hpl hpP
        have nD9 : D9 ≠ p := d8.ne hD9
        have rH9 : Hide (Rx [p] H H9) := ⟨rH8.get.trans r9⟩
        have l89 : H9 l8 = some (.lst xs8) := r9 _ _ (by simpa using nl8) e8
        have hpl4 : ps.length = 4 := by rw [hpl]; simp [rngV]
        have htp : ∀ x ∈ ps, Th (Al H) H9 2 x := fun x hx => Th.anti (fun a ha => .inl (Al.mono rH8.get d8 a ha)) (hpP x hx)
        have ht9 : ∀ x ∈ xs8, Th (Al H) H9 2 x := fun x hx => Th.stab (r9.ag pA) (ht8 x hx)
        walk_at "go"
        refine s_cat l89 e9 (sz1 (by omega)) fun l10 H10 g10 r10 e10 => ?_
        walk_at "go"
        refine s_mk fun t11 H11 g11 r11 e11 => ?_
        walk_at "go"
        refine ⟨_, _, rfl, rfl, mulOk_a9, ?_⟩
        walk_at "go"
        refine s_mk fun l12 H12 g12 r12 e12 => ?_
        walk_at "go"
        refine s_cat (show H12 l10 = some (.lst (xs8 ++ ps)) by walk_at "hp") e12 (sz1 (by simp; omega)) fun l13 H13 g13 r13 e13 => ?_
        have d10 : Dr p H10 := by walk_at "dr"
        have n11 : ¬ Al H t11 := nAlD (rH9.get.trans (Rx.same r10)) d10 g11
        have rs913 : Hide (Same H9 H13) := ⟨by walk_at "sm"⟩
        obtain ⟨ys, hys⟩ : ∃ ys : List V, ys = xs8 ++ ps ++ [.str "view", .str "views", .str "@", .ref t11, .str (Txt.mul "a" 9)] := ⟨_, rfl⟩
        have hyl : ys.length ≤ 50 := by rw [hys]; simp; omega
        have hty : ∀ x ∈ ys, Th (Al H) H13 2 x := by
          intro x hx
          rw [hys] at hx
          rcases List.mem_append.mp hx with h | h
          · rcases List.mem_append.mp h with h | h
            · exact Th.stab (Same.ag rs913.get) (ht9 x h)
            · exact Th.stab (Same.ag rs913.get) (htp x h)
          · have : x = .str "view" ∨ x = .str "views" ∨ x = .str "@" ∨ x = .ref t11 ∨ x = .str (Txt.mul "a" 9) := by simpa using h
            rcases this with rfl | rfl | rfl | rfl | rfl
            · exact Th.str (by decide)
            · exact Th.str (by decide)
            · exact Th.str (by decide)
            · exact th_tup n11 (by walk_at "hp") (by simp) (fun y hy => (List.not_mem_nil hy).elim)
            · exact Th.str (by decide +kernel)
        have e13' : H13 l13 = some (.lst ys) := by rw [e13, hys]
        have d13 : Dr p H13 := by walk_at "dr"
        have rH13 : Hide (Rx [p] H H13) := ⟨rH9.get.trans (Rx.same rs913.get)⟩
        clear e13
        walk_at "go"
        refine s_rev (SqL.of e13') fun l14 H14 g14 r14 e14 => ?_
        walk_at "go"
        refine s_cat (show H14 l13 = some (.lst ys) by walk_at "hp") e14 (sz1 (by simp; omega)) fun l15 H15 g15 r15 e15 => ?_
        have rs1315 : Same H13 H15 := by walk_at "sm"
        walk_at "go"
        refine lc_of (walk_list (xs := ys ++ ys.reverse)) (fun i σ H' => Same H15 H' ∧ ∃ o3 o4 o5 : Option V, σ = [some (.ref p), some (.ref q), some (.ref l13), o3, o4, o5, none, none]) ⟨Same.refl _, _, _, _, rfl⟩ ?_ ?_ ?_
        · rintro i σ H' _ ⟨r, _⟩
          exact SqL.of (r _ _ e15)
        · rintro i x σ H' H'' hi ⟨rr, o3, o4, o5, rfl⟩ ⟨rfl, hx⟩
          have hxy : x ∈ ys := by
            rcases List.mem_append.mp (List.mem_of_getElem? hx) with h | h
            · exact h
            · exact List.mem_reverse.mp h
          have tx : Th (Al H) H'' 2 x := Th.stab (Same.ag (rs1315.trans rr)) (hty x hxy)
          have T : ∀ {H3 : Hp}, Same H'' H3 → Th (Al H) H3 2 x := fun r => Th.stab (Same.ag r) tx
          have T0 : ∀ {H3 : Hp}, Same H'' H3 → Th (Al H) H3 0 x := fun r => (T r).down
          have VS : ∀ {H3 : Hp}, Same H'' H3 → valsV H3 x = valsV H'' x := fun r => valsV_stab r tx
          walk_at "go"
          refine ⟨x, Al H, rfl, T0 (Same.refl _), fun h1 a1 => ?_⟩
          walk_at "go"
          refine ⟨x, Al H, rfl, T0 (by walk_at "sm"), fun h2 a2 => ?_⟩
          walk_at "go"
          refine ⟨x, Al H, rfl, T0 (by walk_at "sm"), fun h3 a3 => ?_⟩
          walk_at "go"
          refine ⟨x, Al H, rfl, T0 (by walk_at "sm"), fun h4 a4 => ?_⟩
          walk_at "go"
          refine s_mk fun l1 h5 b5 a5 c5 => ?_
          walk_at "go"
          refine ⟨x, Al H, rfl, T (by walk_at "sm"), fun h6 a6 => ?_⟩
          rw [show valsV h5 x = valsV H'' x from VS (by walk_at "sm")]
          walk_at "go"
          refine ⟨x, Al H, rfl, T (by walk_at "sm"), fun h7 a7 => ?_⟩
          rw [show valsV h6 x = valsV H'' x from VS (by walk_at "sm")]
          walk_at "go"
          refine s_mk fun l2 h8 b8 a8 c8 => ?_
          walk_at "go"
          refine s_cat (by walk_at "hp") c8 (sz1 (by simp)) fun l3 h9 b9 a9 c9 => ?_
          walk_at "go"
          refine ⟨x, Al H, rfl, T0 (by walk_at "sm"), fun h10 a10 => ?_⟩
          walk_at "go"
          refine ⟨x, Al H, rfl, T0 (by walk_at "sm"), fun h11 a11 => ?_⟩
          walk_at "go"
          refine ⟨x, Al H, rfl, T (by walk_at "sm"), fun h12 a12 => ?_⟩
          rw [show valsV h11 x = valsV H'' x from VS (by walk_at "sm")]
          walk_at "go"
          refine s_mk fun l4 h13 b13 a13 c13 => ?_
          walk_at "go"
          refine s_reprB (by walk_at "hp") ?_
          walk_at "go"
          refine s_mk fun l5 h14 b14 a14 c14 => ?_
          walk_at "go"
          refine s_reprB c14 ?_
          walk_at "go"
          refine ite_f (by simp) ?_
          walk_at "go"
          exact ⟨by walk_at "sm", _, _, _, rfl⟩
        · rintro σ H' ⟨r, o3, o4, o5, rfl⟩
          walk_at "go"
          exact k _ (rH13.get.trans (Rx.same (rs1315.trans r))) (Dr.same (rs1315.trans r) d13)

theorem ok_law (T : Txt mg) (D : At K mg "law" s_law) (h__law_cell : Has P w K mg base CX0 "_law_cell" s__law_cell ["_law_script", "_law_k"] 1 (spCell K)) (h__law_heap : Has P w K mg base CX0 "_law_heap" s__law_heap ["_law_number"] 1 spHeap) (h__law_right : Has P w K mg base CX0 "_law_right" s__law_right ["_law_heap_here"] 5 spRight) :
    Has P w K mg base CX0 "law" s_law ["_law_script"] 6 (spLaw K) := by
  have nd := sc_law.nd
  refine has_mk D sc_law (fun vs H Q E h => ?len) (fun _ _ _ _ _ _ us hl => match us, hl with | [_], _ => rfl) (fun f cdv A outer s H vs Q E hr hgd h => ?bd)
  case len =>
    obtain ⟨a, ns, rfl, _⟩ := h
    rfl
  case bd =>
    obtain ⟨a, ns, rfl, hS, hn, k⟩ := h
    refine ⟨_, (pss_cons (ps_for PassesOwn.never rfl (pi_range1 rfl T.b_range (pa_cons (pe_callB (c_max2 rfl) rfl T.b_max (by decide +kernel) (pa_cons pe_int (pa_cons (pe_callB (c_min2 rfl) rfl T.b_min (by decide +kernel) (pa_cons (pe_callB (lenK K) rfl T.b_len (by decide +kernel) (pa_cons (pv 0) pa_nil)) (pa_cons pe_int pa_nil))) pa_nil))) pa_nil)) (pg_name (i := 1) nd rfl (Or.inl rfl))
      (pss_cons (ps_set (i := 2) nd rfl (Or.inr rfl) (peH h__law_heap (hr.mono (by decide)) hgd rfl (pa_cons (peH h__law_cell (hr.mono (by decide)) hgd rfl (pa_cons (pv 0) (pa_cons (pv 1) pa_nil))) pa_nil)))
      (pss_one (ps_if (pt_not (pt_val (pe_callB (allK K) rfl T.b_all (by decide +kernel) (pa_cons (pe_lc (own := [("_law_turn", 3)]) (g := gName 3) (tt := tYes) rfl nd (pi_range1 rfl T.b_range (pa_cons pe_int pa_nil)) (blkOk_by (N := N_law) (sc := defScope s_law) (own := [("_law_turn", 3)]) (by decide +kernel)) (fun _ _ _ _ _ => (pg_name (i := 3) nd rfl (Or.inl rfl))) (fun _ _ _ _ _ => pts_nil) (fun _ _ _ _ _ => (peH h__law_right (hr.mono (by decide)) hgd rfl (pa_cons (pv 2) pa_nil)))) pa_nil)))) (pss_one (ps_ret pe_bl)) pss_nil))))
      (pss_one (ps_ret pe_bl))), ?_⟩
    walk_at "go"
    rw [List.length_map]
    have hb : ∃ m : Nat, (if (if (6 : Int) < (ns.length : Int) then 6 else (ns.length : Int)) > 2 then (if (6 : Int) < (ns.length : Int) then 6 else (ns.length : Int)) else 2) = (m : Int) ∧ m ≤ 6 := by
      by_cases h6 : (6 : Int) < (ns.length : Int)
      · refine ⟨6, ?_, by omega⟩
        rw [if_pos h6]
        rfl
      · rw [if_neg h6]
        by_cases h2 : (ns.length : Int) > 2
        · rw [if_pos h2]
          exact ⟨ns.length, rfl, by omega⟩
        · rw [if_neg h2]
          exact ⟨2, rfl, by omega⟩
    obtain ⟨m, hm, m6⟩ := hb
    rw [hm]
    walk_at "go"
    refine lc_of (wx_rng (n := m)) (fun i σ H' => Same H H' ∧ ∃ o1 o2 : Option V, σ = [some (.ref a), o1, o2, none]) ⟨Same.refl _, _, _, rfl⟩ (fun _ _ _ _ _ => trivial) ?_ ?_
    · rintro i x σ H1 H2 hi ⟨r1, o1, o2, rfl⟩ ⟨rfl, hx⟩
      obtain ⟨j, hj, rfl⟩ := List.mem_map.mp (List.mem_of_getElem? hx)
      have hj6 : j < m := List.mem_range.mp hj
      walk_at "go"
      refine ⟨a, ns, _, rfl, r1.seq hS, hn, by omega, by omega, fun c H3 r3 => ?_⟩
      walk_at "go"
      refine ⟨_, rfl, fun p H4 hp r4 d4 => ?_⟩
      have hpH : H p = none := (r1.trans r3).free hp
      walk_at "go"
      refine lcD (p := p) (Ft.val (P := fun v => v = .bl true)) (wx_rng (n := 3)) d4 (fun _ _ => trivial) (by simp [rngV]) ?_ gm_name ?_
      · intro y H5 Q1 hy r5 d5 c
        refine ⟨rfl, ?_⟩
        walk_at "go"
        exact ⟨p, rfl, d5, fun H6 r6 d6 => c _ _ r6 d6 rfl⟩
      · intro D H5 ys hD r5 d5 e5 hl hP
        have ey : ys = [true, true, true].map V.bl := by
          have hl3 : ys.length = 3 := by rw [hl]; simp [rngV]
          match ys, hl3 with
          | [y1, y2, y3], _ =>
            rw [hP y1 (by simp), hP y2 (by simp), hP y3 (by simp)]
            rfl
        rw [ey] at e5
        walk_at "go"
        refine s_all e5 ?_
        walk_at "go"
        refine ite_f rfl ?_
        walk_at "go"
        refine ⟨?_, _, _, rfl⟩
        intro b o e
        have h4 : H4 b = some o := (r1.trans (r3.trans r4)) _ _ e
        refine r5 _ _ ?_ h4
        simpa using fun z => by rw [z, hpH] at e; cases e
    · rintro σ H' ⟨r, o1, o2, rfl⟩
      walk_at "go"
      exact k _

end
/-- all defs keep their promises -/
theorem all_ok {P : Program} {w : World} {K : PySem.W.Frag} {mg : Str → Option Value} {base : Heap} (T : Txt mg) (D_is_integer : At K mg "is_integer" s_is_integer) (D_is_name : At K mg "is_name" s_is_name) (D_is_symbol : At K mg "is_symbol" s_is_symbol) (D_is_pair : At K mg "is_pair" s_is_pair) (D_is_values : At K mg "is_values" s_is_values) (D__law_cell : At K mg "_law_cell" s__law_cell) (D__law_heap : At K mg "_law_heap" s__law_heap) (D__law_roll : At K mg "_law_roll" s__law_roll) (D__law_pick : At K mg "_law_pick" s__law_pick) (D__law_name : At K mg "_law_name" s__law_name) (D__law_names : At K mg "_law_names" s__law_names) (D__law_bent : At K mg "_law_bent" s__law_bent) (D__law_is_name : At K mg "_law_is_name" s__law_is_name) (D__law_is_symbol : At K mg "_law_is_symbol" s__law_is_symbol) (D__law_is_values : At K mg "_law_is_values" s__law_is_values) (D__law_pairs : At K mg "_law_pairs" s__law_pairs) (D__law_odd : At K mg "_law_odd" s__law_odd) (D__law_right : At K mg "_law_right" s__law_right) (D_law : At K mg "law" s_law) : Has P w K mg base CX0 "law" s_law ["_law_script"] 6 (spLaw K) := by
  have h_is_integer := ok_is_integer (P := P) (w := w) (base := base) T D_is_integer 
  have h_is_name := ok_is_name (P := P) (w := w) (base := base) T D_is_name 
  have h_is_symbol := ok_is_symbol (P := P) (w := w) (base := base) T D_is_symbol h_is_name
  have h_is_pair := ok_is_pair (P := P) (w := w) (base := base) T D_is_pair h_is_integer h_is_symbol
  have h_is_values := ok_is_values (P := P) (w := w) (base := base) T D_is_values h_is_pair
  have h__law_cell := ok__law_cell (P := P) (w := w) (base := base) T D__law_cell 
  have h__law_heap := ok__law_heap (P := P) (w := w) (base := base) T D__law_heap 
  have h__law_roll := ok__law_roll (P := P) (w := w) (base := base) T D__law_roll 
  have h__law_pick := ok__law_pick (P := P) (w := w) (base := base) T D__law_pick h__law_roll
  have h__law_name := ok__law_name (P := P) (w := w) (base := base) T D__law_name h__law_pick h__law_roll
  have h__law_names := ok__law_names (P := P) (w := w) (base := base) T D__law_names h__law_name h__law_pick h__law_roll
  have h__law_bent := ok__law_bent (P := P) (w := w) (base := base) T D__law_bent h__law_pick h__law_roll
  have h__law_is_name := ok__law_is_name (P := P) (w := w) (base := base) T D__law_is_name 
  have h__law_is_symbol := ok__law_is_symbol (P := P) (w := w) (base := base) T D__law_is_symbol h__law_is_name
  have h__law_is_values := ok__law_is_values (P := P) (w := w) (base := base) T D__law_is_values h__law_is_symbol
  have h__law_pairs := ok__law_pairs (P := P) (w := w) (base := base) T D__law_pairs h__law_pick h__law_roll
  have h__law_odd := ok__law_odd (P := P) (w := w) (base := base) T D__law_odd h__law_pick
  have h__law_right := ok__law_right (P := P) (w := w) (base := base) T D__law_right h__law_bent h__law_is_name h__law_is_symbol h__law_is_values h__law_names h__law_odd h__law_pairs h__law_roll h_is_name h_is_symbol h_is_values
  have h_law := ok_law (P := P) (w := w) (base := base) T D_law h__law_cell h__law_heap h__law_right
  exact h_law
theorem all_mk {l : PySem.W.OpenLaw} {w : World} {K : PySem.W.Frag} {h : Heap} {mg : Str → Option Value} {fa : Addr} (X : K.In h) (G : h.Ns mainGlobals mg) (hfa : mg "law" = some (.ref fa))
    {f0 : Addr} {od0 an0 : Option Addr} {sl0 : Array (Option Value)} {oc0 kV0 dc0 pm0 cd0 ct0 : Value} (a0 : PySem.W.nsIn K mainGlobals "is_integer" = some (some (.ref f0))) (l0 : K.lookup f0 = some ⟨oc0, od0, .func (PySem.W.fnOf "is_integer" "is_integer" (defArgs s_is_integer) (defBody s_is_integer) (defScope s_is_integer) .none kV0 dc0 pm0 an0 cd0 ct0), sl0⟩) (c0 : PySem.W.codeIn K cd0 "is_integer" = true) (k0 : PySem.W.keepIn K (.ref f0) = true)
    {f1 : Addr} {od1 an1 : Option Addr} {sl1 : Array (Option Value)} {oc1 kV1 dc1 pm1 cd1 ct1 : Value} (a1 : PySem.W.nsIn K mainGlobals "is_name" = some (some (.ref f1))) (l1 : K.lookup f1 = some ⟨oc1, od1, .func (PySem.W.fnOf "is_name" "is_name" (defArgs s_is_name) (defBody s_is_name) (defScope s_is_name) .none kV1 dc1 pm1 an1 cd1 ct1), sl1⟩) (c1 : PySem.W.codeIn K cd1 "is_name" = true) (k1 : PySem.W.keepIn K (.ref f1) = true)
    {f2 : Addr} {od2 an2 : Option Addr} {sl2 : Array (Option Value)} {oc2 kV2 dc2 pm2 cd2 ct2 : Value} (a2 : PySem.W.nsIn K mainGlobals "is_symbol" = some (some (.ref f2))) (l2 : K.lookup f2 = some ⟨oc2, od2, .func (PySem.W.fnOf "is_symbol" "is_symbol" (defArgs s_is_symbol) (defBody s_is_symbol) (defScope s_is_symbol) .none kV2 dc2 pm2 an2 cd2 ct2), sl2⟩) (c2 : PySem.W.codeIn K cd2 "is_symbol" = true) (k2 : PySem.W.keepIn K (.ref f2) = true)
    {f3 : Addr} {od3 an3 : Option Addr} {sl3 : Array (Option Value)} {oc3 kV3 dc3 pm3 cd3 ct3 : Value} (a3 : PySem.W.nsIn K mainGlobals "is_pair" = some (some (.ref f3))) (l3 : K.lookup f3 = some ⟨oc3, od3, .func (PySem.W.fnOf "is_pair" "is_pair" (defArgs s_is_pair) (defBody s_is_pair) (defScope s_is_pair) .none kV3 dc3 pm3 an3 cd3 ct3), sl3⟩) (c3 : PySem.W.codeIn K cd3 "is_pair" = true) (k3 : PySem.W.keepIn K (.ref f3) = true)
    {f4 : Addr} {od4 an4 : Option Addr} {sl4 : Array (Option Value)} {oc4 kV4 dc4 pm4 cd4 ct4 : Value} (a4 : PySem.W.nsIn K mainGlobals "is_values" = some (some (.ref f4))) (l4 : K.lookup f4 = some ⟨oc4, od4, .func (PySem.W.fnOf "is_values" "is_values" (defArgs s_is_values) (defBody s_is_values) (defScope s_is_values) .none kV4 dc4 pm4 an4 cd4 ct4), sl4⟩) (c4 : PySem.W.codeIn K cd4 "is_values" = true) (k4 : PySem.W.keepIn K (.ref f4) = true)
    {f5 : Addr} {od5 an5 : Option Addr} {sl5 : Array (Option Value)} {oc5 kV5 dc5 pm5 cd5 ct5 : Value} (a5 : PySem.W.nsIn K mainGlobals "_law_cell" = some (some (.ref f5))) (l5 : K.lookup f5 = some ⟨oc5, od5, .func (PySem.W.fnOf "_law_cell" "_law_cell" (defArgs s__law_cell) (defBody s__law_cell) (defScope s__law_cell) .none kV5 dc5 pm5 an5 cd5 ct5), sl5⟩) (c5 : PySem.W.codeIn K cd5 "_law_cell" = true) (k5 : PySem.W.keepIn K (.ref f5) = true)
    {f6 : Addr} {od6 an6 : Option Addr} {sl6 : Array (Option Value)} {oc6 kV6 dc6 pm6 cd6 ct6 : Value} (a6 : PySem.W.nsIn K mainGlobals "_law_heap" = some (some (.ref f6))) (l6 : K.lookup f6 = some ⟨oc6, od6, .func (PySem.W.fnOf "_law_heap" "_law_heap" (defArgs s__law_heap) (defBody s__law_heap) (defScope s__law_heap) .none kV6 dc6 pm6 an6 cd6 ct6), sl6⟩) (c6 : PySem.W.codeIn K cd6 "_law_heap" = true) (k6 : PySem.W.keepIn K (.ref f6) = true)
    {f7 : Addr} {od7 an7 : Option Addr} {sl7 : Array (Option Value)} {oc7 kV7 dc7 pm7 cd7 ct7 : Value} (a7 : PySem.W.nsIn K mainGlobals "_law_roll" = some (some (.ref f7))) (l7 : K.lookup f7 = some ⟨oc7, od7, .func (PySem.W.fnOf "_law_roll" "_law_roll" (defArgs s__law_roll) (defBody s__law_roll) (defScope s__law_roll) .none kV7 dc7 pm7 an7 cd7 ct7), sl7⟩) (c7 : PySem.W.codeIn K cd7 "_law_roll" = true) (k7 : PySem.W.keepIn K (.ref f7) = true)
    {f8 : Addr} {od8 an8 : Option Addr} {sl8 : Array (Option Value)} {oc8 kV8 dc8 pm8 cd8 ct8 : Value} (a8 : PySem.W.nsIn K mainGlobals "_law_pick" = some (some (.ref f8))) (l8 : K.lookup f8 = some ⟨oc8, od8, .func (PySem.W.fnOf "_law_pick" "_law_pick" (defArgs s__law_pick) (defBody s__law_pick) (defScope s__law_pick) .none kV8 dc8 pm8 an8 cd8 ct8), sl8⟩) (c8 : PySem.W.codeIn K cd8 "_law_pick" = true) (k8 : PySem.W.keepIn K (.ref f8) = true)
    {f9 : Addr} {od9 an9 : Option Addr} {sl9 : Array (Option Value)} {oc9 kV9 dc9 pm9 cd9 ct9 : Value} (a9 : PySem.W.nsIn K mainGlobals "_law_name" = some (some (.ref f9))) (l9 : K.lookup f9 = some ⟨oc9, od9, .func (PySem.W.fnOf "_law_name" "_law_name" (defArgs s__law_name) (defBody s__law_name) (defScope s__law_name) .none kV9 dc9 pm9 an9 cd9 ct9), sl9⟩) (c9 : PySem.W.codeIn K cd9 "_law_name" = true) (k9 : PySem.W.keepIn K (.ref f9) = true)
    {f10 : Addr} {od10 an10 : Option Addr} {sl10 : Array (Option Value)} {oc10 kV10 dc10 pm10 cd10 ct10 : Value} (a10 : PySem.W.nsIn K mainGlobals "_law_names" = some (some (.ref f10))) (l10 : K.lookup f10 = some ⟨oc10, od10, .func (PySem.W.fnOf "_law_names" "_law_names" (defArgs s__law_names) (defBody s__law_names) (defScope s__law_names) .none kV10 dc10 pm10 an10 cd10 ct10), sl10⟩) (c10 : PySem.W.codeIn K cd10 "_law_names" = true) (k10 : PySem.W.keepIn K (.ref f10) = true)
    {f11 : Addr} {od11 an11 : Option Addr} {sl11 : Array (Option Value)} {oc11 kV11 dc11 pm11 cd11 ct11 : Value} (a11 : PySem.W.nsIn K mainGlobals "_law_bent" = some (some (.ref f11))) (l11 : K.lookup f11 = some ⟨oc11, od11, .func (PySem.W.fnOf "_law_bent" "_law_bent" (defArgs s__law_bent) (defBody s__law_bent) (defScope s__law_bent) .none kV11 dc11 pm11 an11 cd11 ct11), sl11⟩) (c11 : PySem.W.codeIn K cd11 "_law_bent" = true) (k11 : PySem.W.keepIn K (.ref f11) = true)
    {f12 : Addr} {od12 an12 : Option Addr} {sl12 : Array (Option Value)} {oc12 kV12 dc12 pm12 cd12 ct12 : Value} (a12 : PySem.W.nsIn K mainGlobals "_law_is_name" = some (some (.ref f12))) (l12 : K.lookup f12 = some ⟨oc12, od12, .func (PySem.W.fnOf "_law_is_name" "_law_is_name" (defArgs s__law_is_name) (defBody s__law_is_name) (defScope s__law_is_name) .none kV12 dc12 pm12 an12 cd12 ct12), sl12⟩) (c12 : PySem.W.codeIn K cd12 "_law_is_name" = true) (k12 : PySem.W.keepIn K (.ref f12) = true)
    {f13 : Addr} {od13 an13 : Option Addr} {sl13 : Array (Option Value)} {oc13 kV13 dc13 pm13 cd13 ct13 : Value} (a13 : PySem.W.nsIn K mainGlobals "_law_is_symbol" = some (some (.ref f13))) (l13 : K.lookup f13 = some ⟨oc13, od13, .func (PySem.W.fnOf "_law_is_symbol" "_law_is_symbol" (defArgs s__law_is_symbol) (defBody s__law_is_symbol) (defScope s__law_is_symbol) .none kV13 dc13 pm13 an13 cd13 ct13), sl13⟩) (c13 : PySem.W.codeIn K cd13 "_law_is_symbol" = true) (k13 : PySem.W.keepIn K (.ref f13) = true)
    {f14 : Addr} {od14 an14 : Option Addr} {sl14 : Array (Option Value)} {oc14 kV14 dc14 pm14 cd14 ct14 : Value} (a14 : PySem.W.nsIn K mainGlobals "_law_is_values" = some (some (.ref f14))) (l14 : K.lookup f14 = some ⟨oc14, od14, .func (PySem.W.fnOf "_law_is_values" "_law_is_values" (defArgs s__law_is_values) (defBody s__law_is_values) (defScope s__law_is_values) .none kV14 dc14 pm14 an14 cd14 ct14), sl14⟩) (c14 : PySem.W.codeIn K cd14 "_law_is_values" = true) (k14 : PySem.W.keepIn K (.ref f14) = true)
    {f15 : Addr} {od15 an15 : Option Addr} {sl15 : Array (Option Value)} {oc15 kV15 dc15 pm15 cd15 ct15 : Value} (a15 : PySem.W.nsIn K mainGlobals "_law_pairs" = some (some (.ref f15))) (l15 : K.lookup f15 = some ⟨oc15, od15, .func (PySem.W.fnOf "_law_pairs" "_law_pairs" (defArgs s__law_pairs) (defBody s__law_pairs) (defScope s__law_pairs) .none kV15 dc15 pm15 an15 cd15 ct15), sl15⟩) (c15 : PySem.W.codeIn K cd15 "_law_pairs" = true) (k15 : PySem.W.keepIn K (.ref f15) = true)
    {f16 : Addr} {od16 an16 : Option Addr} {sl16 : Array (Option Value)} {oc16 kV16 dc16 pm16 cd16 ct16 : Value} (a16 : PySem.W.nsIn K mainGlobals "_law_odd" = some (some (.ref f16))) (l16 : K.lookup f16 = some ⟨oc16, od16, .func (PySem.W.fnOf "_law_odd" "_law_odd" (defArgs s__law_odd) (defBody s__law_odd) (defScope s__law_odd) .none kV16 dc16 pm16 an16 cd16 ct16), sl16⟩) (c16 : PySem.W.codeIn K cd16 "_law_odd" = true) (k16 : PySem.W.keepIn K (.ref f16) = true)
    {f17 : Addr} {od17 an17 : Option Addr} {sl17 : Array (Option Value)} {oc17 kV17 dc17 pm17 cd17 ct17 : Value} (a17 : PySem.W.nsIn K mainGlobals "_law_right" = some (some (.ref f17))) (l17 : K.lookup f17 = some ⟨oc17, od17, .func (PySem.W.fnOf "_law_right" "_law_right" (defArgs s__law_right) (defBody s__law_right) (defScope s__law_right) .none kV17 dc17 pm17 an17 cd17 ct17), sl17⟩) (c17 : PySem.W.codeIn K cd17 "_law_right" = true) (k17 : PySem.W.keepIn K (.ref f17) = true)
    {f18 : Addr} {od18 an18 : Option Addr} {sl18 : Array (Option Value)} {oc18 kV18 dc18 pm18 cd18 ct18 : Value} (a18 : PySem.W.nsIn K mainGlobals "law" = some (some (.ref f18))) (l18 : K.lookup f18 = some ⟨oc18, od18, .func (PySem.W.fnOf "law" "law" (defArgs s_law) (defBody s_law) (defScope s_law) .none kV18 dc18 pm18 an18 cd18 ct18), sl18⟩) (c18 : PySem.W.codeIn K cd18 "law" = true) (k18 : PySem.W.keepIn K (.ref f18) = true)
    (z0 : PySem.W.nsIn K mainGlobals "len" = some none)
    (z1 : PySem.W.nsIn K mainGlobals "isinstance" = some none)
    (z2 : PySem.W.nsIn K mainGlobals "str" = some none)
    (z3 : PySem.W.nsIn K mainGlobals "int" = some none)
    (z4 : PySem.W.nsIn K mainGlobals "tuple" = some none)
    (z5 : PySem.W.nsIn K mainGlobals "bool" = some none)
    (z6 : PySem.W.nsIn K mainGlobals "range" = some none)
    (z7 : PySem.W.nsIn K mainGlobals "all" = some none)
    (z8 : PySem.W.nsIn K mainGlobals "sorted" = some none)
    (z9 : PySem.W.nsIn K mainGlobals "abs" = some none)
    (z10 : PySem.W.nsIn K mainGlobals "max" = some none)
    (z11 : PySem.W.nsIn K mainGlobals "min" = some none)
    (z12 : PySem.W.nsIn K mainGlobals "repr" = some none)
    {t0 : Tok} (y0 : PySem.W.nsIn K mainGlobals "LETTERS" = some (some (.str "abcdefghijklmnopqrstuvwxyz" t0)))
    {t1 : Tok} (y1 : PySem.W.nsIn K mainGlobals "DIGITS" = some (some (.str "0123456789" t1)))
    {t2 : Tok} (y2 : PySem.W.nsIn K mainGlobals "MAX_LENGTH" = some (some (.int 8 t2)))
    {t3 : Tok} (y3 : PySem.W.nsIn K mainGlobals "CELL" = some (some (.str "@" t3)))
    {t4 : Tok} (y4 : PySem.W.nsIn K mainGlobals "VIEW" = some (some (.str "view" t4))) :
    ∃ fd : FuncData, (∀ (s : Shared) (v : Value), BindsTo s fd ⟨[v], []⟩ [("_law_script", v)]) ∧ ∀ base : Heap, K.In base → base.Ns mainGlobals mg → Fg l.prog w K mg base CX0 6 fa fd ["_law_script"] (spLaw K) := by
  have T : Txt mg := ⟨PySem.W.mg_none_of X G z0, PySem.W.mg_none_of X G z1, PySem.W.mg_none_of X G z2, PySem.W.mg_none_of X G z3, PySem.W.mg_none_of X G z4, PySem.W.mg_none_of X G z5, PySem.W.mg_none_of X G z6, PySem.W.mg_none_of X G z7, PySem.W.mg_none_of X G z8, PySem.W.mg_none_of X G z9, PySem.W.mg_none_of X G z10, PySem.W.mg_none_of X G z11, PySem.W.mg_none_of X G z12, ⟨_, PySem.W.mg_of X G y0⟩, ⟨_, PySem.W.mg_of X G y1⟩, ⟨_, PySem.W.mg_of X G y2⟩, ⟨_, PySem.W.mg_of X G y3⟩, ⟨_, PySem.W.mg_of X G y4⟩⟩
  have D0 : At K mg "is_integer" s_is_integer := at_mk X G a0 l0 c0 k0
  have D1 : At K mg "is_name" s_is_name := at_mk X G a1 l1 c1 k1
  have D2 : At K mg "is_symbol" s_is_symbol := at_mk X G a2 l2 c2 k2
  have D3 : At K mg "is_pair" s_is_pair := at_mk X G a3 l3 c3 k3
  have D4 : At K mg "is_values" s_is_values := at_mk X G a4 l4 c4 k4
  have D5 : At K mg "_law_cell" s__law_cell := at_mk X G a5 l5 c5 k5
  have D6 : At K mg "_law_heap" s__law_heap := at_mk X G a6 l6 c6 k6
  have D7 : At K mg "_law_roll" s__law_roll := at_mk X G a7 l7 c7 k7
  have D8 : At K mg "_law_pick" s__law_pick := at_mk X G a8 l8 c8 k8
  have D9 : At K mg "_law_name" s__law_name := at_mk X G a9 l9 c9 k9
  have D10 : At K mg "_law_names" s__law_names := at_mk X G a10 l10 c10 k10
  have D11 : At K mg "_law_bent" s__law_bent := at_mk X G a11 l11 c11 k11
  have D12 : At K mg "_law_is_name" s__law_is_name := at_mk X G a12 l12 c12 k12
  have D13 : At K mg "_law_is_symbol" s__law_is_symbol := at_mk X G a13 l13 c13 k13
  have D14 : At K mg "_law_is_values" s__law_is_values := at_mk X G a14 l14 c14 k14
  have D15 : At K mg "_law_pairs" s__law_pairs := at_mk X G a15 l15 c15 k15
  have D16 : At K mg "_law_odd" s__law_odd := at_mk X G a16 l16 c16 k16
  have D17 : At K mg "_law_right" s__law_right := at_mk X G a17 l17 c17 k17
  have D18 : At K mg "law" s_law := at_mk X G a18 l18 c18 k18
  obtain rfl : f18 = fa := by
    have e := (PySem.W.mg_of X G a18).symm.trans hfa
    cases e
    rfl
  have F := fun_mk (st := s_law) l18 c18 k18
  exact ⟨_, fun s v => .of_eq rfl, fun base _ _ => has_fg F hfa (all_ok T D0 D1 D2 D3 D4 D5 D6 D7 D8 D9 D10 D11 D12 D13 D14 D15 D16 D17 D18)⟩
theorem walk {l : PySem.W.OpenLaw} {q : Program} {loose : List Str} {XP : (Str → Option Value) → Heap → Prop} {YP : World → Heap → Prop} {d : DefRec} {K : Params → PySem.W.Frag} (hn : l.most = some 63) (hdf : d.params.defaults = [])
    (hY : ∀ (w : World) (h : Heap), YP w h → (K w.params).In h)
    (F : ∀ (w : World) (mg : Str → Option Value) (fa : Addr) (h : Heap), (K w.params).In h → h.Ns mainGlobals mg → mg d.name = some (.ref fa) →
      ∃ fd : FuncData, (∀ (s : Shared) (u : Value), BindsTo s fd ⟨[u], []⟩ [("_law_script", u)]) ∧ ∀ base : Heap, (K w.params).In base → base.Ns mainGlobals mg → Fg l.prog w (K w.params) mg base CX0 6 fa fd ["_law_script"] (spLaw (K w.params))) :
    PySem.W.WalkO q loose XP YP l.row.toRowW d [] (fun f vs => PySem.call f vs) :=
  walkG (n := 63) (k := 6) (x := "_law_script") (CX := fun _ => CX0) (sp := fun w => spLaw (K w.params)) hn (by decide) hdf ⟨rfl, by decide, by decide⟩ hY F (fun _ _ a ns hl _ hS => ⟨a, ns, rfl, hS, hl, fun _ => rfl⟩) fun _ _ _ _ _ z => z
end K01
open PySem PySem.W PyProof.Rows
set_option maxRecDepth 100000 in
set_option maxHeartbeats 0 in
theorem PySem.Challenge.cw_blockmoves_k01_names_symbols_values_holds : PySem.Challenge.rw_blockmoves_k01_names_symbols_values.Holds := by
  w_on; o_law; k_head; (case hw => w_witness2)
  k_fill
  refine K01.walk (l := PySem.Challenge.rw_blockmoves_k01_names_symbols_values) rfl rfl (fun w h Y => PySem.W.kIn_of Y) ?F
  case F =>
    intro w mg fa h KX G hmg
    refine' K01.all_mk KX G hmg ?a0 ?l0 ?c0 ?k0 ?a1 ?l1 ?c1 ?k1 ?a2 ?l2 ?c2 ?k2 ?a3 ?l3 ?c3 ?k3 ?a4 ?l4 ?c4 ?k4 ?a5 ?l5 ?c5 ?k5 ?a6 ?l6 ?c6 ?k6 ?a7 ?l7 ?c7 ?k7 ?a8 ?l8 ?c8 ?k8 ?a9 ?l9 ?c9 ?k9 ?a10 ?l10 ?c10 ?k10 ?a11 ?l11 ?c11 ?k11 ?a12 ?l12 ?c12 ?k12 ?a13 ?l13 ?c13 ?k13 ?a14 ?l14 ?c14 ?k14 ?a15 ?l15 ?c15 ?k15 ?a16 ?l16 ?c16 ?k16 ?a17 ?l17 ?c17 ?k17 ?a18 ?l18 ?c18 ?k18 ?z0 ?z1 ?z2 ?z3 ?z4 ?z5 ?z6 ?z7 ?z8 ?z9 ?z10 ?z11 ?z12 ?y0 ?y1 ?y2 ?y3 ?y4
    (case a0 => k_is); (case l0 => k_is); (case c0 => k_is); (case k0 => k_is); (case a1 => k_is); (case l1 => k_is)
    (case c1 => k_is); (case k1 => k_is); (case a2 => k_is); (case l2 => k_is); (case c2 => k_is); (case k2 => k_is)
    (case a3 => k_is); (case l3 => k_is); (case c3 => k_is); (case k3 => k_is); (case a4 => k_is); (case l4 => k_is)
    (case c4 => k_is); (case k4 => k_is); (case a5 => k_is); (case l5 => k_is); (case c5 => k_is); (case k5 => k_is)
    (case a6 => k_is); (case l6 => k_is); (case c6 => k_is); (case k6 => k_is); (case a7 => k_is); (case l7 => k_is)
    (case c7 => k_is); (case k7 => k_is); (case a8 => k_is); (case l8 => k_is); (case c8 => k_is); (case k8 => k_is)
    (case a9 => k_is); (case l9 => k_is); (case c9 => k_is); (case k9 => k_is); (case a10 => k_is); (case l10 => k_is)
    (case c10 => k_is); (case k10 => k_is); (case a11 => k_is); (case l11 => k_is); (case c11 => k_is); (case k11 => k_is)
    (case a12 => k_is); (case l12 => k_is); (case c12 => k_is); (case k12 => k_is); (case a13 => k_is); (case l13 => k_is)
    (case c13 => k_is); (case k13 => k_is); (case a14 => k_is); (case l14 => k_is); (case c14 => k_is); (case k14 => k_is)
    (case a15 => k_is); (case l15 => k_is); (case c15 => k_is); (case k15 => k_is); (case a16 => k_is); (case l16 => k_is)
    (case c16 => k_is); (case k16 => k_is); (case a17 => k_is); (case l17 => k_is); (case c17 => k_is); (case k17 => k_is)
    (case a18 => k_is); (case l18 => k_is); (case c18 => k_is); (case k18 => k_is); (case z0 => k_is); (case z1 => k_is)
    (case z2 => k_is); (case z3 => k_is); (case z4 => k_is); (case z5 => k_is); (case z6 => k_is); (case z7 => k_is)
    (case z8 => k_is); (case z9 => k_is); (case z10 => k_is); (case z11 => k_is); (case z12 => k_is); (case y0 => k_is)
    (case y1 => k_is); (case y2 => k_is); (case y3 => k_is); (case y4 => k_is)
#print axioms PySem.Challenge.cw_blockmoves_k01_names_symbols_values_holds
