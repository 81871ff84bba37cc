import PyProof.Rows.All
import Wide.All
import OpenK.AllK
import Wide.FinOn
import HandS.ForMost
import HandS.ForExc
import HandS.IsInst
import HandS.EndBits
import HandS.Wide
import HandS.Walk
import PySem.Challenge.RW_paritycells_k31_names_times_stamps
set_option Elab.async false
set_option linter.all false
set_option maxRecDepth 100000
set_option maxHeartbeats 2000000
/-! PcA: defs around which no text of an object is being made (so repr may be asked); calls by values; the end. -/
namespace PC
open PySem PySem.Spec PyProof.Rows L2

/-- as the layer's promise of a def, for surroundings in which no repr is under way -/
structure FnG (P : Program) (w : World) (K : PySem.W.Frag) (mg : Str → Option Value) (base : Heap)
    (k : Nat) (f : Addr) (fd : FuncData) (ps : List Str) (sp : Sp) : Prop where
  len : ∀ vs H Q E, sp vs H Q E → vs.length = ps.length
  run : ∀ (A : Around) (outer : List Env) (s : Shared) (H : Hp) (args : Args)
      (us : List Value) (vs : List V) (Q : VK) (E : XK),
    A.guards = some [] → Room k A → Env0 P w K mg base A outer s H →
    BindsTo s fd args (ps.zip us) → Vals vs us → sp vs H Q E →
    codeAny (model P w) A (.call (.ref f) args) (CR (L2.CX P w) outer P w H s Q E) s

section
variable {P : Program} {w : World} {K : PySem.W.Frag} {mg : Str → Option Value} {base : Heap}

theorem FnG.mono {j k : Nat} {f : Addr} {fd : FuncData} {ps : List Str} {sp : Sp}
    (F : FnG P w K mg base j f fd ps sp) (h : j ≤ k) : FnG P w K mg base k f fd ps sp :=
  ⟨F.len, fun A o s H a us vs Q E g r => F.run A o s H a us vs Q E g (r.mono h)⟩
theorem FnG.imp {k : Nat} {f : Addr} {fd : FuncData} {ps : List Str} {sp sp' : Sp}
    (F : FnG P w K mg base k f fd ps sp) (h : ∀ vs H Q E, sp' vs H Q E → sp vs H Q E) : FnG P w K mg base k f fd ps sp' :=
  ⟨fun vs H Q E q => F.len vs H Q E (h _ _ _ _ q),
    fun A o s H a us vs Q E g r e0 b rv q => F.run A o s H a us vs Q E g r e0 b rv (h _ _ _ _ q)⟩

/-- the context of a body -/
abbrev cxg (P : Program) (w : World) (K : PySem.W.Frag) (mg : Str → Option Value) (base : Heap) (N : List Str) (qual : Str)
    (st : Stmt) (f : Addr) (cdv : Value) (A : Around) (outer : List Env) (s : Shared) (H : Hp) (E : XK) : Cx :=
  cxOf (L2.CX P w) P w K mg base N qual (defScope st) f cdv A outer s H E

/-- a def of the text by its body; the body may lean on «no repr is under way» -/
theorem FnG.okX {x qual : Str} {st : Stmt} {f : Addr} {fd : FuncData} {N ps : List Str} {k : Nat} {sp : Sp}
    (F : Fun K x qual st f fd) (S : FnScope N ps (defScope st))
    (len : ∀ vs H Q E, sp vs H Q E → vs.length = ps.length)
    (body : ∀ (cdv : Value) (A : Around) (outer : List Env) (s : Shared) (H : Hp) (vs : List V) (Q : VK) (E : XK),
      A.guards = some [] → Room k (A.deeper (envOfC qual (defScope st) s.heap.objs.size f cdv)) → sp vs H Q E →
      ∃ t, PSs (cxg P w K mg base N qual st f cdv A outer s H E) (defBody st) t ∧
        t { nx := fun _ H' => Q .non H', rt := Q } (start N vs) H) :
    FnG P w K mg base (k + 1) f fd ps sp := by
  obtain ⟨oc, od, kV, doc, pm, an, cdv, ct, osl, rfl, lk, hcd⟩ := F.ex
  refine ⟨len, fun A outer s H args us vs Q E hg hr e0 hb rv hsp => ?_⟩
  have bk : ∀ b o, base.get? b = some o → s.heap.get? b = some o := fun b o e => (e0.bs b o e).1
  have cells : ∀ y ∈ ps.zip us, (defScope st).names.lookup y.1 = some .local ∨
      ((defScope st).names.lookup y.1 = some .cell ∧
        ((cellsFrom (s.heap.objs.size + 1) (defScope st).names []).lookup y.1).isSome = true) := by
    rintro ⟨n, v⟩ hy
    rcases S.par n (List.of_mem_zip hy).1 with z | z
    · exact .inl z
    · exact .inr ⟨z, PySem.W.cellsFrom_some _ _ _ (.inl z)⟩
  refine codeAny_call_function hr.depth ((e0.mod.kin.keeps bk) _ _ lk) rfl S.co S.gen rfl
    (PySem.W.codeRec_of (e0.mod.kin.keeps bk) hcd) (hb _ _ _ _ ?_)
  refine wpAny_newFunctionEnv_cells S.kind cells fun env he s1 x => ?_
  subst he
  refine ⟨(e0.mod.nolimit.keeps bk).keeps x.toInCall.keep, codeAny_func ?_⟩
  obtain ⟨t, ht, hq⟩ := body cdv A outer s H vs Q E hg (hr.deeper _) hsp
  refine wpAny_mono (ht.run [] s1 (start N vs) H _
    (inv_start S hr.hd e0 (len _ _ _ _ hsp) rv x) hq) (fun fl s' hs => ?_) fun e s' hs => hs
  cases fl with
  | ret u =>
    obtain ⟨v, _, H', J, r, q⟩ := hs
    exact ⟨v, H', J.os, J.bare, J.base, J.hok, r, q⟩
  | next =>
    obtain ⟨_, H', J, q⟩ := hs
    exact ⟨V.non, H', J.os, J.bare, J.base, J.hok, rfl, q⟩
  | brk => obtain ⟨_, _, _, q⟩ := hs; exact q.elim
  | cont => obtain ⟨_, _, _, q⟩ := hs; exact q.elim

/-- the same for a def that lets nothing out -/
theorem FnG.ok {x qual : Str} {st : Stmt} {f : Addr} {fd : FuncData} {N ps : List Str} {k : Nat} {sp : Sp}
    (F : Fun K x qual st f fd) (S : FnScope N ps (defScope st))
    (len : ∀ vs H Q E, sp vs H Q E → vs.length = ps.length)
    (body : ∀ (cdv : Value) (A : Around) (outer : List Env) (s : Shared) (H : Hp) (vs : List V) (Q : VK) (E : XK),
      A.guards = some [] → Room k (A.deeper (envOfC qual (defScope st) s.heap.objs.size f cdv)) → sp vs H Q E →
      ∃ t, PSs (cxg P w K mg base N qual st f cdv A outer s H E).nox (defBody st) t ∧
        t { nx := fun _ H' => Q .non H', rt := Q } (start N vs) H) :
    FnG P w K mg base (k + 1) f fd ps sp :=
  FnG.okX F S len fun cdv A outer s H vs Q E g r h =>
    let ⟨t, ht, q⟩ := body cdv A outer s H vs Q E g r h
    ⟨t, ht.nox, q⟩
end

/-- nothing leaves: a call in a def that lets nothing out -/
theorem passN {X : Cx} : Passes (L2.CX X.prog X.w) X E0 := by
  rintro pins σ H s e s' I ⟨a, B, H', cls, d, h1, h2, h3, h4, h5, h6, h7, h8⟩
  exact h8.elim

section
variable {X : Cx} {k : Nat} {f : Addr} {fd : FuncData} {ps ks : List Str} {sp : Sp} {dvs : List V} {ds : List Value} {E : XK}
/-- a def by its values: positional -/
theorem FnG.at (F : FnG X.prog X.w X.K X.mg X.base k f fd ps sp) (hg : X.A.guards = some []) (hr : Room k X.A)
    (hb : Binds X.K fd ps ds) (hd : Vals dvs ds) (hx : Passes (L2.CX X.prog X.w) X E) :
    CallR X (.ref f) (fun vs H Q => sp (vs ++ dvs) H Q E) := by
  intro pins s σ H vs us Q I rv h
  have r2 : Vals (vs ++ dvs) (us ++ ds) := rv.append hd
  have hl : (us ++ ds).length = ps.length := by rw [← r2.length]; exact F.len _ _ _ _ h
  refine wpAny_call (codeAny_mono (F.run X.A X.stack s H ⟨us, []⟩ (us ++ ds) (vs ++ dvs) Q E hg hr I.env0
    (hb s us I.kIn hl) r2 h) fun r s' hq => ?_)
  match r, hq with
  | .error e, hq => exact hx pins σ H s e s' I hq
  | .ok (.ret u), hq => exact I.after hq
  | .ok .next, hq => exact hq.elim
  | .ok .brk, hq => exact hq.elim
  | .ok .cont, hq => exact hq.elim

/-- a call with keywords, by values -/
def CallKR (X : Cx) (f : Value) (ks : List Str) (r : List V → List V → Hp → VK → Prop) : Prop :=
  ∀ (pins : List (Addr × Obj)) (s : Shared) (σ : L2.St) (H : Hp) (xs zs : List V) (us ws : List Value) (Q : VK),
    Inv X pins σ H s → Vals xs us → Vals zs ws → r xs zs H Q →
    wpAny (model X.prog X.w) X.A (call f us (ks.zip ws)) (EP X pins σ Q) X.xe s
theorem FnG.atK {g : List Value → List Value → List Value} {gV : List V → List V → List V}
    (F : FnG X.prog X.w X.K X.mg X.base k f fd ps sp) (hg : X.A.guards = some []) (hr : Room k X.A)
    (hb : KBinds X.K fd ps ks g gV) (hx : Passes (L2.CX X.prog X.w) X E) :
    CallKR X (.ref f) ks (fun vs zs H Q => sp (gV vs zs) H Q E) := by
  intro pins s σ H vs zs us ws Q I rv rz h
  have r2 := hb.rel rv rz
  have hl : (g us ws).length = ps.length := by rw [← r2.length]; exact F.len _ _ _ _ h
  refine wpAny_call (codeAny_mono (F.run X.A X.stack s H ⟨us, ks.zip ws⟩ (g us ws) (gV vs zs) Q E hg hr I.env0
    (hb.to s us ws I.kIn hl) r2 h) fun r s' hq => ?_)
  match r, hq with
  | .error e, hq => exact hx pins σ H s e s' I hq
  | .ok (.ret u), hq => exact I.after hq
  | .ok .next, hq => exact hq.elim
  | .ok .brk, hq => exact hq.elim
  | .ok .cont, hq => exact hq.elim

variable {x : Str} {p pos : Pos} {e : Expr} {es : List Expr} {kws : List Keyword} {t tk : TA}
    {r : List V → Hp → VK → Prop} {rk : List V → List V → Hp → VK → Prop}
/-- x(e, ..) where the module's name x holds a def -/
theorem pe_fn (c : CallR X (.ref f) r) (hg : Gl X x) (hm : X.mg x = some (.ref f)) (hk : PySem.W.keepIn X.K (.ref f) = true)
    (ha : PA X (e :: es) t) (hdb : (x == ("__debug__" : Str)) = false := by decide)
    (he : starEach (e :: es) X.env = (false, eval e X.env) :: starEach es X.env := by rfl)
    (hpl : (backTo pos (starEach es X.env)).any (·.1) = false := by rfl) :
    PE X (.Call (.Name x p) (e :: es) [] pos) (tCB r t) := by
  refine ⟨fun pins s σ H Q I h => wpAny_Call_Name_kw (ld_glob I hg hm ?_ hdb)⟩
  refine PySem.W.callWith_K (h₀ := X.base) I.ok.mod.kin hk
    (thn (ha.run pos pins s σ H _ I h) fun us s1 hh => ?_) he hpl
  obtain ⟨vs, H1, I1, rv, q⟩ := hh
  exact ⟨I1.kIn, c pins s1 σ H1 vs us Q I1 rv q⟩
theorem pe_fn0 (c : CallR X (.ref f) r) (hg : Gl X x) (hm : X.mg x = some (.ref f)) (hk : PySem.W.keepIn X.K (.ref f) = true)
    (hdb : (x == ("__debug__" : Str)) = false := by decide) :
    PE X (.Call (.Name x p) [] [] pos) (tCB r tNil) := by
  refine ⟨fun pins s σ H Q I h => wpAny_Call_Name_kw (ld_glob I hg hm ?_ hdb)⟩
  exact PySem.W.callWith_K0 I.kIn hk (c pins s σ H [] [] Q I .nil h)
def tCK (r : List V → List V → Hp → VK → Prop) (t tk : TA) : TE :=
  fun σ H Q => t σ H fun vs H1 => tk σ H1 fun zs H2 => r vs zs H2 Q
theorem pe_fnK (c : CallKR X (.ref f) ks rk) (hg : Gl X x) (hm : X.mg x = some (.ref f)) (hk : PySem.W.keepIn X.K (.ref f) = true)
    (ha : PA X (e :: es) t) (hkw : PK X kws tk)
    (hall : (backToKw pos (keywordEach kws X.env)).all (·.1.isSome) = true := by rfl)
    (hks : (backToKw pos (keywordEach kws X.env)).filterMap (·.1) = ks := by rfl)
    (hdb : (x == ("__debug__" : Str)) = false := by decide)
    (he : starEach (e :: es) X.env = (false, eval e X.env) :: starEach es X.env := by rfl)
    (hpl : ((backTo pos (starEach (e :: es) X.env)).any (·.1) ||
      (backToKw pos (keywordEach kws X.env)).any (·.1.isNone)) = false := by rfl) :
    PE X (.Call (.Name x p) (e :: es) kws pos) (tCK rk t tk) := by
  refine ⟨fun pins s σ H Q I h => wpAny_Call_Name_kw (ld_glob I hg hm ?_ hdb)⟩
  refine PySem.W.callWith_KW (h₀ := X.base) I.ok.mod.kin hk hall
    (thn (ha.run pos pins s σ H _ I h) fun us s1 hh => ?_) hpl he
  obtain ⟨vs, H1, I1, rv, q⟩ := hh
  refine thn (hkw.run pos pins s1 σ H1 _ I1 q) fun ws s2 hh2 => ?_
  obtain ⟨zs, H2, I2, rz, q2⟩ := hh2
  refine ⟨I2.kIn, ?_⟩
  rw [hks]
  exact c pins s2 σ H2 vs zs us ws Q I2 rv rz q2
/-- keywords alone -/
theorem pe_fnK0 (c : CallKR X (.ref f) ks rk) (hg : Gl X x) (hm : X.mg x = some (.ref f)) (hk : PySem.W.keepIn X.K (.ref f) = true)
    (hkw : PK X kws tk)
    (hall : (backToKw pos (keywordEach kws X.env)).all (·.1.isSome) = true := by rfl)
    (hks : (backToKw pos (keywordEach kws X.env)).filterMap (·.1) = ks := by rfl)
    (hdb : (x == ("__debug__" : Str)) = false := by decide)
    (hpl : ((backTo pos (starEach [] X.env)).any (·.1) ||
      (backToKw pos (keywordEach kws X.env)).any (·.1.isNone)) = false := by rfl) :
    PE X (.Call (.Name x p) [] kws pos) (tCK rk tNil tk) := by
  refine ⟨fun pins s σ H Q I h => wpAny_Call_Name_kw (ld_glob I hg hm ?_ hdb)⟩
  refine PySem.W.callWith_KW0 (h₀ := X.base) I.ok.mod.kin hk hall
    (thn (hkw.run pos pins s σ H _ I h) fun ws s2 hh2 => ?_) hpl
  obtain ⟨zs, H2, I2, rz, q2⟩ := hh2
  refine ⟨I2.kIn, ?_⟩
  rw [hks]
  exact c pins s2 σ H2 [] zs [] ws Q I2 .nil rz q2
end

/-! ### repr of what stands -/
section
variable {X : Cx}
theorem repr_ref (hg : X.A.guards = some []) {pins : List (Addr × Obj)} {σ : L2.St} {H : Hp} {s : Shared} {a : Addr} {d : PyData} {as : List Addr} {Q : VK}
    (I : Inv X pins σ H s) (r : Reads s.heap (.ref a) d as) (hs : d.showable = true) (hsm : d.hasDict = true → sysModules ∉ as)
    (hu : X.A.units + (d.depth + 1) < cLine) (hz : d.shown.length ≤ sizeLine) (q : Q (.str d.shown) H) :
    wpAny (model X.prog X.w) X.A (call (.builtin "repr") [.ref a]) (EP X pins σ Q) X.xe s :=
  repr_of_reads' r hs hsm hg hu (fun _ _ e => e) (fun h' u tk k => ⟨.str d.shown, H, I.kept k, ⟨u, rfl⟩, q⟩) hz
end

/-! ### the end: the law's def, called -/
/-- the place of the interpreter's own table is known -/
def One (H : Hp) : Prop := ∃ o a, H sysModules = some (.frz o (.own a))
section
variable {P : Program} {w : World} {K : PySem.W.Frag} {mg mb : Str → Option Value} {k : Nat} {fa a : Addr} {fd : FuncData}
  {x : Str} {sp : Sp} {s₁ : Shared} {vs : List Value} {ns : List Int}
/-- the heap behind the top: locked, at most the script and the interpreter's table are tracked -/
structure Root (K : PySem.W.Frag) (P : Program) (w : World) (a : Addr) (ns : List Int) (s₁ : Shared) (H : Hp) : Prop where
  only : ∀ b, H b = none ∨ ∃ o u, H b = some (.frz o u)
  list : SqL K H a (ns.map V.int)
  hok : HOk P w H s₁.heap
  two : ∀ b, H b ≠ none → b = sysModules ∨ (b = a ∧ K.lookup a = none)
  one : One H
theorem root_of (KX : K.In s₁.heap) (k1 : K.lookup sysModules = none) (ha1 : a ≠ sysModules) (hs : ∃ o, s₁.heap.get? sysModules = some o)
    (ha : s₁.heap.get? a = some { cls := .type "list", data := .seq vs.toArray })
    (hi : IntsAre vs ns) (hl : ns.length ≤ sizeLine) : ∃ H, Root K P w a ns s₁ H := by
  have rv := vals_ints hi
  have lv := hi.length
  obtain ⟨o1, e1⟩ := hs
  cases hk : K.lookup a with
  | some o =>
    have e := (KX a o hk).symm.trans ha
    cases e
    refine ⟨fun b => if b = sysModules then some (.frz o1 (.own 0)) else none, ?_,
      .inr ⟨_, vs.toArray, _, hk, rfl, rfl, rfl, by rw [List.size_toArray, lv]; exact hl, by simpa using rv⟩, ?_, ?_, ⟨o1, 0, if_pos rfl⟩⟩
    · intro b
      by_cases hb : b = sysModules
      · exact .inr ⟨o1, _, if_pos hb⟩
      · exact .inl (if_neg hb)
    · intro b u z
      by_cases hb : b = sysModules
      · have z' := (if_pos hb).symm.trans z
        cases z'
        subst hb
        exact ⟨e1, ⟨o1, e1⟩⟩
      · have z' := (if_neg hb).symm.trans z
        cases z'
    · intro b z
      by_cases hb : b = sysModules
      · exact .inl hb
      · exact absurd (if_neg hb) z
  | none =>
    let so : Obj := { cls := .type "list", data := .seq vs.toArray }
    refine ⟨fun b => if b = sysModules then some (.frz o1 (.own 0)) else if b = a then some (.frz so (.lst (ns.map V.int))) else none,
      ?_, .inl (.inr ⟨so, (if_neg ha1).trans (if_pos rfl)⟩), ?_, ?_, ⟨o1, 0, if_pos rfl⟩⟩
    · intro b
      by_cases hb : b = sysModules
      · exact .inr ⟨o1, _, if_pos hb⟩
      · by_cases hb2 : b = a
        · exact .inr ⟨so, _, (if_neg hb).trans (if_pos hb2)⟩
        · exact .inl ((if_neg hb).trans (if_neg hb2))
    · intro b u z
      by_cases hb : b = sysModules
      · have z' := (if_pos hb).symm.trans z
        cases z'
        subst hb
        exact ⟨e1, ⟨o1, e1⟩⟩
      · by_cases hb2 : b = a
        · have z' := ((if_neg hb).trans (if_pos hb2)).symm.trans z
          cases z'
          subst hb2
          exact ⟨ha, by rw [List.length_map]; exact hl, vs, _, rv, ha⟩
        · have z' := ((if_neg hb).trans (if_neg hb2)).symm.trans z
          cases z'
    · intro b z
      by_cases hb : b = sysModules
      · exact .inl hb
      · by_cases hb2 : b = a
        · exact .inr ⟨hb2, hk⟩
        · exact absurd ((if_neg hb).trans (if_neg hb2)) z
theorem lawG (KX : K.In s₁.heap) (k1 : K.lookup sysModules = none) (ha1 : a ≠ sysModules) (hs : ∃ o, s₁.heap.get? sysModules = some o)
    (hns : s₁.heap.Ns mainGlobals mg) (hb : s₁.heap.Ns builtinsNs mb)
    (hbb : ∀ x : Str, x ≠ "__name__" → mb x = bootBuiltins x) (hlim : s₁.heap.NoLimit) (hg : s₁.gens = #[])
    (ha : s₁.heap.get? a = some { cls := .type "list", data := .seq vs.toArray }) (hi : IntsAre vs ns)
    (hl : ns.length ≤ sizeLine) (hr : Room k callerA)
    (F : ∀ base : Heap, K.In base → base.Ns mainGlobals mg → FnG P w K mg base k fa fd [x] sp)
    (hbind : ∀ (s : Shared) (u : Value), BindsTo s fd ⟨[u], []⟩ [(x, u)])
    (hsp : ∀ H : Hp, One H → SqL K H a (ns.map V.int) → sp [.ref a] H (fun v _ => v = .bl true) E0) :
    codeAny (model P w) callerA (.call (.ref fa) ⟨[.ref a], []⟩)
      (fun r s' => r = .ok (.ret (.bool true)) ∧ OldK s₁.heap s'.heap ∧ s'.os = s₁.os ∧ AllBare s'.gens) s₁ := by
  obtain ⟨H, R⟩ := root_of (P := P) (w := w) KX k1 ha1 hs ha hi hl
  have gone : ∀ {b : Addr} {o : Obj}, s₁.heap.get? b = some o → b ≠ sysModules →
      (b = a → K.lookup a = some o ∨ ∃ es ep, o.data = .dict es ep) → H b = none := by
    intro b o e hs h
    cases q : H b with
    | none => rfl
    | some u =>
      rcases R.two b (by rw [q]; simp) with z | ⟨eb, kn⟩
      · exact absurd z hs
      rcases h eb with z | ⟨es, ep, z⟩
      · rw [kn] at z
        cases z
      · subst eb
        rw [ha] at e
        cases e
        cases z
  have nsK : ∀ {b : Addr} {m : Str → Option Value}, b ≠ sysModules → s₁.heap.Ns b m → (hidT s₁.heap H).Ns b m := by
    rintro b m hs ⟨o, es, ep, e, d, r⟩
    exact ⟨o, es, ep, hidT_get e (gone e hs fun _ => .inr ⟨es, ep, d⟩), d, r⟩
  have kb : K.In (hidT s₁.heap H) := fun b o e =>
    hidT_get (KX b o e) (gone (KX b o e) (fun z => by rw [z, k1] at e; cases e) fun q => .inl (q ▸ e))
  obtain ⟨mc, l1, l2⟩ := hlim
  have M : Mod K mg (hidT s₁.heap H) :=
    ⟨kb, nsK (by decide) hns, ⟨mb, nsK (by decide) hb, hbb⟩, ⟨mc, nsK (by decide) l1, l2⟩⟩
  have nofr : ∀ b ∈ frs ([] : List Env), H b = none := by
    intro b hb
    cases (show b ∈ ([] : List Addr) from hb)
  have e0 : Env0 P w K mg (hidT s₁.heap H) callerA [] s₁ H :=
    ⟨rfl, M, fun b o e => of_hidT e, Nat.le_of_eq (hidT_size _ _), trivial, nofr, R.hok, .of_eq hg⟩
  refine codeAny_mono ((F _ kb (nsK (by decide) hns)).run callerA [] s₁ H ⟨[.ref a], []⟩ [.ref a] [.ref a] _ _ rfl hr e0
    (hbind s₁ (.ref a)) (.cons rfl .nil) (hsp H R.one R.list)) fun r s' h => ?_
  match r, h with
  | .error e, h =>
    obtain ⟨_, _, _, _, _, _, _, _, _, _, _, _, z⟩ := h
    exact z.elim
  | .ok .next, h => exact h.elim
  | .ok .brk, h => exact h.elim
  | .ok .cont, h => exact h.elim
  | .ok (.ret u), h =>
    obtain ⟨v, H', os, bare, un, hok', r', q⟩ := h
    obtain rfl : v = .bl true := q
    obtain rfl : u = Value.bool true := r'
    refine ⟨rfl, OldK.of_keep fun b o e => ?_, os, bare⟩
    rcases R.only b with z | ⟨ob, xs, z⟩
    · exact un.keep b o e z (fun hb => by cases (show b ∈ ([] : List Addr) from hb)) (by simp)
    · obtain ⟨e1, _⟩ := R.hok b _ z
      obtain ⟨e2, _⟩ := hok' b _ (un.frzs b ob _ z)
      rw [e] at e1
      cases e1
      exact e2
end
theorem script_at {r : PySem.W.WRecords} {cl : Str → Option Addr} {h : Heap} {a : Addr} {d : List PySem.W.WData} {as : List Addr}
    (x : PySem.W.ReadsAllW r cl h [Value.ref a] [PySem.W.WData.list d] as) : a ∈ as := by
  cases x with
  | cons r1 r2 =>
    cases r1 with
    | list => exact List.mem_append_left _ List.mem_cons_self
theorem walkG {l : PySem.W.OpenLaw} {n k : Nat} {q : Program} {loose : List Str} {XP : (Str → Option Value) → Heap → Prop}
    {YP : World → Heap → Prop} {d : DefRec} {K : Params → PySem.W.Frag} {sp : World → Sp} {x : Str}
    (hn : l.most = some n) (hn2 : n ≤ sizeLine) (hdf : d.params.defaults = []) (hr : Room k callerA)
    (hY : ∀ (w : World) (h : Heap), YP w h → (K w.params).In h)
    (hK : ∀ w : World, (K w.params).lookup sysModules = none) (him : importsNone q = true)
    (F : ∀ (w : World) (mg : Str → Option Value) (fa : Addr) (h : Heap), (K w.params).In h → h.Ns mainGlobals mg →
      mg d.name = some (.ref fa) → ∃ fd : FuncData, (∀ (s : Shared) (u : Value), BindsTo s fd ⟨[u], []⟩ [(x, u)]) ∧
        ∀ base : Heap, (K w.params).In base → base.Ns mainGlobals mg → FnG l.prog w (K w.params) mg base k fa fd [x] (sp w))
    (hsp : ∀ (w : World) (H : Hp) (a : Addr) (ns : List Int), ns.length ≤ n → (∀ z ∈ ns, Builtin.Int.intBits z ≤ 1048576) →
      One H → SqL (K w.params) H a (ns.map V.int) → sp w [.ref a] H (fun v _ => v = .bl true) E0) :
    PySem.W.WalkO q loose XP YP l.row.toRowW d [] (fun f vs => PySem.call f vs) := by
  intro w s₀ s₁ mg mb G Y fa o pm cd doc dV kV ho hd hcd hD hmg hg args vals as hpre hlay hrd hwl hlo
  obtain rfl : dV = .none := PySem.W.Dflts.none hD hdf
  obtain rfl : kV = .none := PySem.W.Dflts.noKw hD
  obtain ⟨a, vs, ns, rfl, rfl, hobj, hints, hlen⟩ := Att.script_of hn hpre hwl
  obtain ⟨fd, hb, hF⟩ := F w mg fa _ (hY w _ Y) G.T.g hmg
  have key := lawG (hY w _ Y) (hK w) (fun z => by have := hlo a (script_at hrd); rw [z] at this; cases this)
    (let ⟨_, ⟨o, _, _, e, _⟩, _⟩ := (G.T.seer him).mods; ⟨o, e⟩) G.T.g G.T.b G.T.builtins G.T.nolimit hg hobj hints
    (Nat.le_trans hlen hn2) hr hF hb fun H h1 hS => hsp w H a ns hlen (Att.script_bits hlay) h1 hS
  refine PySem.W.enter_call (codeAny_mono key fun r s' hq => ?_)
  obtain ⟨rfl, h2, h3, h4⟩ := hq
  exact ⟨.inl ⟨.bool true, .bool true, [], rfl, fun _ => rfl, .bool true, Att.post_true l _,
    fun _ => ⟨List.Pairwise.nil, fun _ hm => (nomatch hm)⟩⟩, h2, h3, h4⟩
end PC

set_option Elab.async false
set_option linter.all false
set_option maxRecDepth 100000
set_option maxHeartbeats 2000000
/-! PcB: data that stays; steps of the heap; wider rules by values. -/
namespace PC
open PySem PySem.Spec PyProof.Rows L2

/-! ### what stays, and the pot -/
/-- the law's store of draws: a number to be read digit by digit, a number that is mixed -/
def Pot (p : Addr) (H : Hp) : Prop := ∃ a b : Int, H p = some (.lst [.int a, .int b]) ∧ 0 ≤ a ∧ 0 ≤ b ∧ b < 2147483647
/-- all that is tracked stays, but what stands at p -/
structure R (p : Addr) (H H' : Hp) : Prop where
  keep : ∀ b o, b ≠ p → H b = some o → H' b = some o
  frz : ∀ b o u, H b = some (.frz o u) → H' b = some (.frz o u)
  occ : H p ≠ none → H' p ≠ none
  pot : Pot p H → Pot p H'
theorem R.refl (p : Addr) (H : Hp) : R p H H := ⟨fun _ _ _ h => h, fun _ _ _ h => h, fun h => h, fun h => h⟩
theorem R.trans {p : Addr} {H H1 H2 : Hp} (a : R p H H1) (b : R p H1 H2) : R p H H2 :=
  ⟨fun c o n h => b.keep c o n (a.keep c o n h), fun c o u h => b.frz c o u (a.frz c o u h), fun h => b.occ (a.occ h), fun h => b.pot (a.pot h)⟩
theorem R.of_same {p : Addr} {H H' : Hp} (h : Same H H') : R p H H' :=
  ⟨fun b o _ e => h b o e, fun b o u e => h b _ e, fun z w => z (h.free w), fun ⟨a, b, e, r⟩ => ⟨a, b, h _ _ e, r⟩⟩
theorem same_new {n : Addr} {H : Hp} {o : HO} (h : H n = none) : Same H (upd H n o) := fun b u e => by
  rw [upd_ne (ne_of_none e h)]; exact e
theorem R.new {p n : Addr} {H : Hp} {o : HO} (h : H n = none) : R p H (upd H n o) := .of_same (same_new h)
theorem R.draw {p : Addr} {H : Hp} {a b : Int} {o : HO} (h : H p = some o) (ho : ∀ x u, o ≠ .frz x u) (ha : 0 ≤ a) (hb : 0 ≤ b) (hb2 : b < 2147483647) :
    R p H (upd H p (.lst [.int a, .int b])) :=
  ⟨fun c u n e => (by rw [upd_ne n]; exact e), fun c x u e => (by
    by_cases z : c = p
    · subst z
      rw [h] at e
      exact absurd (Option.some.inj e) (ho x u)
    · rw [upd_ne z]; exact e),
   fun _ => (by rw [upd_same]; exact fun w => nomatch w), fun _ => ⟨a, b, upd_same, ha, hb, hb2⟩⟩
/-- a new list that grew meanwhile -/
theorem R.over {p D : Addr} {H H' : Hp} {o : HO} (r : R p H H') (hD : H D = none) (hp : D ≠ p) : R p H (upd H' D o) :=
  ⟨fun b u n e => by rw [upd_ne (ne_of_none e hD)]; exact r.keep b u n e, fun b x u e => by rw [upd_ne (ne_of_none e hD)]; exact r.frz b x u e,
   fun z => by rw [upd_ne hp.symm]; exact r.occ z, fun z => by
    obtain ⟨a, b, e, q⟩ := r.pot z
    exact ⟨a, b, by rw [upd_ne hp.symm]; exact e, q⟩⟩
theorem R.one {p : Addr} {H H' : Hp} (r : R p H H') (h : One H) : One H' := by
  obtain ⟨o, u, e⟩ := h
  exact ⟨o, u, r.frz _ _ _ e⟩
theorem R.free {p a : Addr} {H H' : Hp} (r : R p H H') (n : a ≠ p) (h : H' a = none) : H a = none := by
  cases e : H a with
  | none => rfl
  | some o => rw [r.keep a o n e] at h; cases h
/-! ### data -/
def keyD : Key → PyData
  | .inl i => .int i
  | .inr x => .str x
mutual
/-- v shows the data d; none of its own objects stands at a place of Z -/
def Dat (K : PySem.W.Frag) (Z : List Addr) (H : Hp) : PyData → V → Prop
  | .none, v => v = .non
  | .bool b, v => v = .bl b
  | .int i, v => v = .int i
  | .str x, v => v = .str x
  | .list ds, v => ∃ a xs, v = .ref a ∧ a ∉ Z ∧ Rd H a (.lst xs) ∧ DatL K Z H ds xs
  | .tuple ds, v => ∃ a xs, v = .ref a ∧ (a ∉ Z ∨ SqT K (fun _ => none) a xs) ∧ SqT K H a xs ∧ DatL K Z H ds xs
  | .dict kvs, v => ∃ a es, v = .ref a ∧ a ∉ Z ∧ H a = some (.dK es) ∧ DatK K Z H kvs es
def DatL (K : PySem.W.Frag) (Z : List Addr) (H : Hp) : List PyData → List V → Prop
  | [], vs => vs = []
  | d :: ds, vs => ∃ v r, vs = v :: r ∧ Dat K Z H d v ∧ DatL K Z H ds r
def DatK (K : PySem.W.Frag) (Z : List Addr) (H : Hp) : List (PyData × PyData) → List (Key × V) → Prop
  | [], es => es = []
  | (k, d) :: r, es => ∃ kk v t, es = (kk, v) :: t ∧ keyD kk = k ∧ Dat K Z H d v ∧ DatK K Z H r t
end
section
variable {K : PySem.W.Frag} {p : Addr} {Z Z' : List Addr} {H H' : Hp}
theorem _root_.L2.Rd.up {a : Addr} {u : HO} (r : R p H H') (n : a ≠ p) (h : Rd H a u) : Rd H' a u := by
  rcases h with h | ⟨o, h⟩
  · exact .inl (r.keep _ _ n h)
  · exact .inr ⟨o, r.frz _ _ _ h⟩
theorem SqL.up {a : Addr} {xs : List V} (r : R p H H') (n : a ≠ p) (h : SqL K H a xs) : SqL K H' a xs := by
  rcases h with h | h
  · exact .inl (Rd.up r n h)
  · exact .inr h
theorem SqT.up {a : Addr} {xs : List V} (r : R p H H') (hp : p ∈ Z) (n : a ∉ Z ∨ SqT K (fun _ => none) a xs) (h : SqT K H a xs) : SqT K H' a xs := by
  rcases h with h | h
  · rcases n with n | n
    · exact .inl (Rd.up r (fun z => n (z ▸ hp)) h)
    · rcases n with (n | ⟨o, n⟩) | n
      · cases n
      · cases n
      · exact .inr n
  · exact .inr h
mutual
theorem Dat.up (r : R p H H') (hp : p ∈ Z) : ∀ (d : PyData) (v : V), Dat K Z H d v → Dat K Z H' d v
  | .none, v, h => h
  | .bool _, v, h => h
  | .int _, v, h => h
  | .str _, v, h => h
  | .list ds, v, h => by
    simp only [Dat] at h ⊢
    obtain ⟨a, xs, e, n, s, l⟩ := h
    exact ⟨a, xs, e, n, s.up r (fun z => n (z ▸ hp)), DatL.up r hp ds xs l⟩
  | .tuple ds, v, h => by
    simp only [Dat] at h ⊢
    obtain ⟨a, xs, e, n, s, l⟩ := h
    exact ⟨a, xs, e, n, SqT.up r hp n s, DatL.up r hp ds xs l⟩
  | .dict kvs, v, h => by
    simp only [Dat] at h ⊢
    obtain ⟨a, es, e, n, s, l⟩ := h
    exact ⟨a, es, e, n, r.keep _ _ (fun z => n (z ▸ hp)) s, DatK.up r hp kvs es l⟩
theorem DatL.up (r : R p H H') (hp : p ∈ Z) : ∀ (ds : List PyData) (vs : List V), DatL K Z H ds vs → DatL K Z H' ds vs
  | [], vs, h => h
  | d :: ds, vs, h => by
    simp only [DatL] at h ⊢
    obtain ⟨v, q, e, h1, h2⟩ := h
    exact ⟨v, q, e, Dat.up r hp d v h1, DatL.up r hp ds q h2⟩
theorem DatK.up (r : R p H H') (hp : p ∈ Z) : ∀ (ds : List (PyData × PyData)) (es : List (Key × V)), DatK K Z H ds es → DatK K Z H' ds es
  | [], vs, h => h
  | (k, d) :: ds, vs, h => by
    simp only [DatK] at h ⊢
    obtain ⟨kk, v, q, e, hk, h1, h2⟩ := h
    exact ⟨kk, v, q, e, hk, Dat.up r hp d v h1, DatK.up r hp ds q h2⟩
end
mutual
/-- one place more -/
theorem Dat.more {D : Addr} (hD : H D = none) : ∀ (d : PyData) (v : V), Dat K Z H d v → Dat K (D :: Z) H d v
  | .none, v, h => h
  | .bool _, v, h => h
  | .int _, v, h => h
  | .str _, v, h => h
  | .list ds, v, h => by
    simp only [Dat] at h ⊢
    obtain ⟨a, xs, e, n, s, l⟩ := h
    refine ⟨a, xs, e, fun z => ?_, s, DatL.more hD ds xs l⟩
    rcases List.mem_cons.mp z with z | z
    · subst z
      rcases s with s | ⟨o, s⟩ <;> (rw [hD] at s; cases s)
    · exact n z
  | .tuple ds, v, h => by
    simp only [Dat] at h ⊢
    obtain ⟨a, xs, e, n, s, l⟩ := h
    refine ⟨a, xs, e, ?_, s, DatL.more hD ds xs l⟩
    by_cases z : a = D
    · subst z
      rcases s with (s | ⟨o, s⟩) | s
      · rw [hD] at s; cases s
      · rw [hD] at s; cases s
      · exact .inr (.inr s)
    · rcases n with n | n
      · exact .inl fun q => (List.mem_cons.mp q).elim z n
      · exact .inr n
  | .dict kvs, v, h => by
    simp only [Dat] at h ⊢
    obtain ⟨a, es, e, n, s, l⟩ := h
    refine ⟨a, es, e, fun z => ?_, s, DatK.more hD kvs es l⟩
    rcases List.mem_cons.mp z with z | z
    · subst z
      rw [hD] at s; cases s
    · exact n z
theorem DatL.more {D : Addr} (hD : H D = none) : ∀ (ds : List PyData) (vs : List V), DatL K Z H ds vs → DatL K (D :: Z) H ds vs
  | [], vs, h => h
  | d :: ds, vs, h => by
    simp only [DatL] at h ⊢
    obtain ⟨v, q, e, h1, h2⟩ := h
    exact ⟨v, q, e, Dat.more hD d v h1, DatL.more hD ds q h2⟩
theorem DatK.more {D : Addr} (hD : H D = none) : ∀ (ds : List (PyData × PyData)) (es : List (Key × V)), DatK K Z H ds es → DatK K (D :: Z) H ds es
  | [], vs, h => h
  | (k, d) :: ds, vs, h => by
    simp only [DatK] at h ⊢
    obtain ⟨kk, v, q, e, hk, h1, h2⟩ := h
    exact ⟨kk, v, q, e, hk, Dat.more hD d v h1, DatK.more hD ds q h2⟩
end
mutual
/-- fewer places -/
theorem Dat.less (hz : ∀ a, a ∈ Z' → a ∈ Z) : ∀ (d : PyData) (v : V), Dat K Z H d v → Dat K Z' H d v
  | .none, v, h => h
  | .bool _, v, h => h
  | .int _, v, h => h
  | .str _, v, h => h
  | .list ds, v, h => by
    simp only [Dat] at h ⊢
    obtain ⟨a, xs, e, n, s, l⟩ := h
    exact ⟨a, xs, e, fun z => n (hz _ z), s, DatL.less hz ds xs l⟩
  | .tuple ds, v, h => by
    simp only [Dat] at h ⊢
    obtain ⟨a, xs, e, n, s, l⟩ := h
    exact ⟨a, xs, e, n.imp (fun n z => n (hz _ z)) id, s, DatL.less hz ds xs l⟩
  | .dict kvs, v, h => by
    simp only [Dat] at h ⊢
    obtain ⟨a, es, e, n, s, l⟩ := h
    exact ⟨a, es, e, fun z => n (hz _ z), s, DatK.less hz kvs es l⟩
theorem DatL.less (hz : ∀ a, a ∈ Z' → a ∈ Z) : ∀ (ds : List PyData) (vs : List V), DatL K Z H ds vs → DatL K Z' H ds vs
  | [], vs, h => h
  | d :: ds, vs, h => by
    simp only [DatL] at h ⊢
    obtain ⟨v, q, e, h1, h2⟩ := h
    exact ⟨v, q, e, Dat.less hz d v h1, DatL.less hz ds q h2⟩
theorem DatK.less (hz : ∀ a, a ∈ Z' → a ∈ Z) : ∀ (ds : List (PyData × PyData)) (es : List (Key × V)), DatK K Z H ds es → DatK K Z' H ds es
  | [], vs, h => h
  | (k, d) :: ds, vs, h => by
    simp only [DatK] at h ⊢
    obtain ⟨kk, v, q, e, hk, h1, h2⟩ := h
    exact ⟨kk, v, q, e, hk, Dat.less hz d v h1, DatK.less hz ds q h2⟩
end
mutual
/-- a place that is no data's, changed -/
theorem Dat.put {D : Addr} {o : HO} (hd : D ∈ Z) : ∀ (d : PyData) (v : V), Dat K Z H d v → Dat K Z (upd H D o) d v
  | .none, v, h => h
  | .bool _, v, h => h
  | .int _, v, h => h
  | .str _, v, h => h
  | .list ds, v, h => by
    simp only [Dat] at h ⊢
    obtain ⟨a, xs, e, n, s, l⟩ := h
    have nz : a ≠ D := fun z => n (z ▸ hd)
    refine ⟨a, xs, e, n, ?_, DatL.put hd ds xs l⟩
    rcases s with s | ⟨u, s⟩
    · exact .inl (by rw [upd_ne nz]; exact s)
    · exact .inr ⟨u, by rw [upd_ne nz]; exact s⟩
  | .tuple ds, v, h => by
    simp only [Dat] at h ⊢
    obtain ⟨a, xs, e, n, s, l⟩ := h
    refine ⟨a, xs, e, n, ?_, DatL.put hd ds xs l⟩
    rcases n with n | ((n | ⟨u, n⟩) | n)
    · have nz : a ≠ D := fun z => n (z ▸ hd)
      rcases s with (s | ⟨u, s⟩) | s
      · exact .inl (.inl (by rw [upd_ne nz]; exact s))
      · exact .inl (.inr ⟨u, by rw [upd_ne nz]; exact s⟩)
      · exact .inr s
    · cases n
    · cases n
    · exact .inr n
  | .dict kvs, v, h => by
    simp only [Dat] at h ⊢
    obtain ⟨a, es, e, n, s, l⟩ := h
    have nz : a ≠ D := fun z => n (z ▸ hd)
    exact ⟨a, es, e, n, by rw [upd_ne nz]; exact s, DatK.put hd kvs es l⟩
theorem DatL.put {D : Addr} {o : HO} (hd : D ∈ Z) : ∀ (ds : List PyData) (vs : List V), DatL K Z H ds vs → DatL K Z (upd H D o) ds vs
  | [], vs, h => h
  | d :: ds, vs, h => by
    simp only [DatL] at h ⊢
    obtain ⟨v, q, e, h1, h2⟩ := h
    exact ⟨v, q, e, Dat.put hd d v h1, DatL.put hd ds q h2⟩
theorem DatK.put {D : Addr} {o : HO} (hd : D ∈ Z) : ∀ (ds : List (PyData × PyData)) (es : List (Key × V)), DatK K Z H ds es → DatK K Z (upd H D o) ds es
  | [], vs, h => h
  | (k, d) :: ds, vs, h => by
    simp only [DatK] at h ⊢
    obtain ⟨kk, v, q, e, hk, h1, h2⟩ := h
    exact ⟨kk, v, q, e, hk, Dat.put hd d v h1, DatK.put hd ds q h2⟩
end
theorem dat_int {i : Int} : Dat K Z H (.int i) (.int i) := by simp only [Dat]
theorem dat_bl {i : Bool} : Dat K Z H (.bool i) (.bl i) := by simp only [Dat]
theorem dat_str {i : Str} : Dat K Z H (.str i) (.str i) := by simp only [Dat]
theorem dat_non : Dat K Z H .none .non := by simp only [Dat]
theorem dat_lst {a : Addr} {xs : List V} {ds : List PyData} (n : a ∉ Z) (h : Rd H a (.lst xs)) (l : DatL K Z H ds xs) : Dat K Z H (.list ds) (.ref a) := by
  simp only [Dat]; exact ⟨a, xs, rfl, n, h, l⟩
theorem dat_tup {a : Addr} {xs : List V} {ds : List PyData} (n : a ∉ Z) (h : SqT K H a xs) (l : DatL K Z H ds xs) : Dat K Z H (.tuple ds) (.ref a) := by
  simp only [Dat]; exact ⟨a, xs, rfl, .inl n, h, l⟩
theorem Dat.lst {v : V} {ds : List PyData} (h : Dat K Z H (.list ds) v) : ∃ a xs, v = .ref a ∧ a ∉ Z ∧ Rd H a (.lst xs) ∧ DatL K Z H ds xs := by
  simpa only [Dat] using h
theorem Dat.tup {v : V} {ds : List PyData} (h : Dat K Z H (.tuple ds) v) : ∃ a xs, v = .ref a ∧ (a ∉ Z ∨ SqT K (fun _ => none) a xs) ∧ SqT K H a xs ∧ DatL K Z H ds xs := by
  simpa only [Dat] using h
theorem Dat.dct {v : V} {ds : List (PyData × PyData)} (h : Dat K Z H (.dict ds) v) : ∃ a es, v = .ref a ∧ a ∉ Z ∧ H a = some (.dK es) ∧ DatK K Z H ds es := by
  simpa only [Dat] using h
theorem DatL.cons_inv {d : PyData} {ds : List PyData} {vs : List V} (h : DatL K Z H (d :: ds) vs) : ∃ v r, vs = v :: r ∧ Dat K Z H d v ∧ DatL K Z H ds r := by
  simpa only [DatL] using h
theorem DatL.nil_inv {vs : List V} (h : DatL K Z H [] vs) : vs = [] := by simpa only [DatL] using h
theorem datL_nil : DatL K Z H [] [] := by simp only [DatL]
theorem datL_cons {d : PyData} {ds : List PyData} {v : V} {vs : List V} (h : Dat K Z H d v) (l : DatL K Z H ds vs) : DatL K Z H (d :: ds) (v :: vs) := by
  simp only [DatL]; exact ⟨v, vs, rfl, h, l⟩
theorem DatL.length : ∀ {ds : List PyData} {vs : List V}, DatL K Z H ds vs → vs.length = ds.length
  | [], vs, h => by rw [h.nil_inv]; rfl
  | d :: ds, vs, h => by
    obtain ⟨v, q, e, h1, h2⟩ := h.cons_inv
    rw [e, List.length_cons, List.length_cons, DatL.length h2]
theorem DatL.get : ∀ {ds : List PyData} {vs : List V} {i : Nat} {d : PyData}, DatL K Z H ds vs → ds[i]? = some d → ∃ v, vs[i]? = some v ∧ Dat K Z H d v
  | [], _, _, _, _, e => by simp at e
  | d :: ds, vs, i, x, h, e => by
    obtain ⟨v, q, rfl, h1, h2⟩ := h.cons_inv
    cases i with
    | zero => simp at e; subst e; exact ⟨v, rfl, h1⟩
    | succ i => exact DatL.get (i := i) h2 (by simpa using e)
theorem DatL.append : ∀ {ds es : List PyData} {vs ws : List V}, DatL K Z H ds vs → DatL K Z H es ws → DatL K Z H (ds ++ es) (vs ++ ws)
  | [], es, vs, ws, h, g => by
    have e := h.nil_inv
    subst e; exact g
  | d :: ds, es, vs, ws, h, g => by
    obtain ⟨v, q, rfl, h1, h2⟩ := h.cons_inv
    exact datL_cons h1 (DatL.append h2 g)
theorem DatL.drop : ∀ {ds : List PyData} {vs : List V} (n : Nat), DatL K Z H ds vs → DatL K Z H (ds.drop n) (vs.drop n)
  | _, _, 0, h => h
  | [], vs, n + 1, h => by
    have e := h.nil_inv
    subst e; exact datL_nil
  | d :: ds, vs, n + 1, h => by
    obtain ⟨v, q, rfl, h1, h2⟩ := h.cons_inv
    exact DatL.drop n h2
theorem DatL.take : ∀ {ds : List PyData} {vs : List V} (n : Nat), DatL K Z H ds vs → DatL K Z H (ds.take n) (vs.take n)
  | _, _, 0, h => by rw [List.take_zero, List.take_zero]; exact datL_nil
  | [], vs, n + 1, h => by
    have e := h.nil_inv
    subst e; exact datL_nil
  | d :: ds, vs, n + 1, h => by
    obtain ⟨v, q, rfl, h1, h2⟩ := h.cons_inv
    exact datL_cons h1 (DatL.take n h2)
theorem datL_ints : ∀ (ns : List Int), DatL K Z H (ns.map .int) (ns.map .int)
  | [] => datL_nil
  | n :: ns => datL_cons dat_int (datL_ints ns)
theorem datL_bls : ∀ (ns : List Bool), DatL K Z H (ns.map .bool) (ns.map .bl)
  | [] => datL_nil
  | n :: ns => datL_cons dat_bl (datL_bls ns)
theorem datL_strs : ∀ (ns : List Str), DatL K Z H (ns.map .str) (ns.map .str)
  | [] => datL_nil
  | n :: ns => datL_cons dat_str (datL_strs ns)
theorem DatL.ints : ∀ {ns : List Int} {vs : List V}, DatL K Z H (ns.map .int) vs → vs = ns.map .int
  | [], vs, h => h.nil_inv
  | n :: ns, vs, h => by
    obtain ⟨v, q, rfl, h1, h2⟩ := DatL.cons_inv (d := .int n) (ds := ns.map .int) h
    simp only [Dat] at h1
    rw [h1, DatL.ints h2]; rfl
theorem DatL.bls : ∀ {ns : List Bool} {vs : List V}, DatL K Z H (ns.map .bool) vs → vs = ns.map .bl
  | [], vs, h => h.nil_inv
  | n :: ns, vs, h => by
    obtain ⟨v, q, rfl, h1, h2⟩ := DatL.cons_inv (d := .bool n) (ds := ns.map .bool) h
    simp only [Dat] at h1
    rw [h1, DatL.bls h2]; rfl
theorem DatL.strs : ∀ {ns : List Str} {vs : List V}, DatL K Z H (ns.map .str) vs → vs = ns.map .str
  | [], vs, h => h.nil_inv
  | n :: ns, vs, h => by
    obtain ⟨v, q, rfl, h1, h2⟩ := DatL.cons_inv (d := .str n) (ds := ns.map .str) h
    simp only [Dat] at h1
    rw [h1, DatL.strs h2]; rfl
end

/-! ### its objects, in the heap of the machine -/
section
variable {X : Cx} {pins : List (Addr × Obj)} {σ : L2.St} {H : Hp} {s : Shared} {Z : List Addr}
theorem keyD_reads {k : Key} {u : Value} {h : Heap} (e : keyIs k u = true) : Reads h u (keyD k) [] := by
  rcases keyIs_shape e with ⟨i, t, rfl, rfl⟩ | ⟨x, t, rfl, rfl⟩
  · exact .int i t
  · exact .str x t
theorem notSys {a : Addr} {xs : List V} (I : Inv X pins σ H s) (o1 : One H) (h : SqL X.K H a xs) : a ≠ sysModules := by
  obtain ⟨o, u, e⟩ := o1
  intro z
  subst z
  rcases h with (h | ⟨o', h⟩) | ⟨o', _, _, h, _⟩
  · rw [e] at h; cases h
  · rw [e] at h; cases h
  · have q := (I.bs _ _ (I.mod.kin _ _ h)).2
    rw [e] at q; cases q
mutual
theorem Dat.reads (I : Inv X pins σ H s) (o1 : One H) : ∀ (d : PyData) (v : V) (u : Value), Dat X.K Z H d v → RelV v u →
    ∃ as, Reads s.heap u d as ∧ sysModules ∉ as
  | .none, _, _, h, r => by
    simp only [Dat] at h
    subst h
    cases (show _ = Value.none from r)
    exact ⟨_, .none, by simp⟩
  | .bool b, _, _, h, r => by
    simp only [Dat] at h
    subst h
    cases (show _ = Value.bool b from r)
    exact ⟨_, .bool b, by simp⟩
  | .int i, _, _, h, r => by
    simp only [Dat] at h
    subst h
    obtain ⟨t, rfl⟩ := (show ∃ t, _ = Value.int i t from r)
    exact ⟨_, .int i t, by simp⟩
  | .str x, _, _, h, r => by
    simp only [Dat] at h
    subst h
    obtain ⟨t, rfl⟩ := (show ∃ t, _ = Value.str x t from r)
    exact ⟨_, .str x t, by simp⟩
  | .list ds, _, _, h, r => by
    obtain ⟨a, xs, rfl, n, hs, hl⟩ := h.lst
    cases (show _ = Value.ref a from r)
    obtain ⟨its, rv, ⟨o, k, ho, hc, _, hd⟩, _⟩ := I.list (.inl hs)
    obtain ⟨as, hr, ns⟩ := DatL.reads I o1 ds xs its hl rv
    refine ⟨_, .list ho hc hd hr, fun z => ?_⟩
    rcases List.mem_cons.mp z with z | z
    · exact notSys I o1 (.inl hs) z.symm
    · exact ns z
  | .tuple ds, _, _, h, r => by
    obtain ⟨a, xs, rfl, n, hs, hl⟩ := h.tup
    cases (show _ = Value.ref a from r)
    obtain ⟨its, rv, ⟨o, ho, hc, k, hd⟩, _⟩ := I.tuple hs
    obtain ⟨as, hr, ns⟩ := DatL.reads I o1 ds xs its hl rv
    exact ⟨_, .tuple ho hc hd hr, ns⟩
  | .dict kvs, _, _, h, r => by
    obtain ⟨a, es, rfl, n, hs, hl⟩ := h.dct
    cases (show _ = Value.ref a from r)
    obtain ⟨_, hsys, vs, rel, o, en, ep, ho, hx, hd, _, hp, _⟩ := (show ObjOk X.prog X.w H s.heap a (.dK es) from I.hok a _ hs)
    obtain ⟨as, bs, r1, r2, n1, n2⟩ := DatK.reads I o1 kvs es vs en.toList hl rel hp
    refine ⟨_, .dict ho hx.1 hd r1 r2, fun z => ?_⟩
    rcases List.mem_append.mp z with z | z
    · rcases List.mem_cons.mp z with z | z
      · rw [← z] at hsys; simp at hsys
      · exact n1 z
    · exact n2 z
theorem DatL.reads (I : Inv X pins σ H s) (o1 : One H) : ∀ (ds : List PyData) (vs : List V) (us : List Value), DatL X.K Z H ds vs → Vals vs us →
    ∃ as, ReadsAll s.heap us ds as ∧ sysModules ∉ as
  | [], vs, us, h, r => by
    simp only [DatL] at h
    subst h
    cases r
    exact ⟨_, .nil, by simp⟩
  | d :: ds, vs, us, h, r => by
    simp only [DatL] at h
    obtain ⟨v, q, rfl, h1, h2⟩ := h
    cases r with
    | cons r1 r2 =>
      obtain ⟨as, q1, n1⟩ := Dat.reads I o1 d v _ h1 r1
      obtain ⟨bs, q2, n2⟩ := DatL.reads I o1 ds q _ h2 r2
      exact ⟨_, .cons q1 q2, fun z => (List.mem_append.mp z).elim n1 n2⟩
theorem DatK.reads (I : Inv X pins σ H s) (o1 : One H) : ∀ (ds : List (PyData × PyData)) (es : List (Key × V)) (vs : List (Key × Value)) (en : List DictEntry),
    DatK X.K Z H ds es → KV es vs → Pairs (mixKind X.prog X.w) en vs →
    ∃ as bs, ReadsAll s.heap (en.map (·.key)) (ds.map (·.1)) as ∧ ReadsAll s.heap (en.map (·.val)) (ds.map (·.2)) bs ∧ sysModules ∉ as ∧ sysModules ∉ bs
  | [], es, vs, en, h, r, pr => by
    simp only [DatK] at h
    subst h
    cases r
    cases pr
    exact ⟨_, _, .nil, .nil, by simp, by simp⟩
  | (k, d) :: ds, es, vs, en, h, r, pr => by
    simp only [DatK] at h
    obtain ⟨kk, v, q, rfl, hk, h1, h2⟩ := h
    cases r with
    | cons r1 r2 =>
      obtain ⟨e1, e2⟩ := r1
      cases pr with
      | cons p1 p2 p3 =>
        obtain ⟨as, q1, n1⟩ := Dat.reads I o1 d v _ h1 e2
        obtain ⟨bs, cs, q2, q3, n2, n3⟩ := DatK.reads I o1 ds q _ _ h2 r2 p3
        have kr : Reads s.heap _ (keyD _) [] := keyD_reads (h := s.heap) p1
        rw [show keyD _ = k from (congrArg keyD e1.symm).trans hk] at kr
        rw [← p2] at q1
        exact ⟨_, _, .cons kr q2, .cons q1 q3, fun z => n2 (by simpa using z), fun z => (List.mem_append.mp z).elim n1 n3⟩
end
end

/-! ### sizes of data: depth at most k, bulk at most n -/
mutual
/-- its texts are made of code points -/
def lay : PyData → Bool
  | .none => true
  | .bool _ => true
  | .int _ => true
  | .str x => PyData.strOk x
  | .list xs => layL xs
  | .tuple xs => layL xs
  | .dict kvs => layK kvs
def layL : List PyData → Bool
  | [] => true
  | x :: xs => lay x && layL xs
def layK : List (PyData × PyData) → Bool
  | [] => true
  | (k, v) :: xs => lay k && lay v && layK xs
end
mutual
theorem canLay_of : ∀ d : PyData, lay d = true → d.hasDict = false → d.canLay0 = true
  | .none, _, _ => rfl
  | .bool _, _, _ => rfl
  | .int _, _, _ => rfl
  | .str x, h, _ => by simpa only [lay, PyData.canLay0] using h
  | .list xs, h, g => by
    simp only [lay] at h
    simp only [PyData.hasDict] at g
    simp only [PyData.canLay0]
    exact canLayAll_of xs h g
  | .tuple xs, h, g => by
    simp only [lay] at h
    simp only [PyData.hasDict] at g
    simp only [PyData.canLay0]
    exact canLayAll_of xs h g
  | .dict kvs, _, g => by simp only [PyData.hasDict] at g; cases g
theorem canLayAll_of : ∀ d : List PyData, layL d = true → PyData.hasDictAll d = false → PyData.canLayAll0 d = true
  | [], _, _ => rfl
  | x :: xs, h, g => by
    simp only [layL, Bool.and_eq_true] at h
    simp only [PyData.hasDictAll, Bool.or_eq_false_iff] at g
    simp only [PyData.canLayAll0, canLay_of x h.1 g.1, canLayAll_of xs h.2 g.2, Bool.and_self]
end
structure Tame (d : PyData) (k n : Nat) : Prop where
  show_ : d.showable = true
  short : d.leavesShort 300 = true
  lay : lay d = true
  depth : d.depth ≤ k
  bulk : d.bulk ≤ n
structure TameL (d : List PyData) (k n : Nat) : Prop where
  show_ : PyData.showableAll d = true
  short : PyData.leavesShortAll 300 d = true
  lay : layL d = true
  depth : PyData.depthAll d ≤ k
  bulk : PyData.bulkAll d ≤ n
section
variable {k n j m : Nat} {d : PyData} {ds : List PyData}
theorem Tame.mono (h : Tame d k n) (a : k ≤ j) (l : n ≤ m) : Tame d j m := ⟨h.1, h.2, h.3, Nat.le_trans h.4 a, Nat.le_trans h.5 l⟩
theorem TameL.mono (h : TameL ds k n) (a : k ≤ j) (l : n ≤ m) : TameL ds j m := ⟨h.1, h.2, h.3, Nat.le_trans h.4 a, Nat.le_trans h.5 l⟩
theorem Tame.len (h : Tame d k n) (hn : n ≤ 50000) : d.shown.length ≤ sizeLine := by
  have := PyData.shown_le_bulk 300 (by decide) d h.short
  have := h.bulk
  rw [sizeLine_eq]
  omega
theorem tame_none : Tame .none 1 0 := ⟨rfl, rfl, rfl, by decide, by decide⟩
theorem tame_bool {b : Bool} : Tame (.bool b) 1 0 := ⟨rfl, rfl, rfl, by simp [PyData.depth], by simp [PyData.bulk]⟩
theorem log2_small {i : Int} {k : Nat} (hk : 0 < k) (h : i.natAbs < 2 ^ k) : i.natAbs.log2 < k := by
  by_cases z : i.natAbs = 0
  · rw [z]; simpa using hk
  · exact (Nat.log2_lt z).mpr h
theorem tame_int {i : Int} (h : i.natAbs < 2 ^ 250) : Tame (.int i) 1 0 := by
  have hl := log2_small (by decide) h
  refine ⟨?_, ?_, rfl, by simp [PyData.depth], by simp [PyData.bulk]⟩
  · simp only [PyData.showable, decide_eq_true_eq]
    omega
  · simp only [PyData.leavesShort, decide_eq_true_eq, PyData.shown]
    have e := int_text_length_le (a := i) (k := 250) (by decide) hl
    have e2 := PySem.ofString_length (toString i)
    exact decide_eq_true (by omega)
theorem tame_str {x : Str} (h : x.length ≤ n) (hc : PyData.strOk x = true) : Tame (.str x) 1 n := by
  refine ⟨rfl, ?_, by simpa only [lay] using hc, by simp [PyData.depth], by simpa only [PyData.bulk] using (show x.cps.size ≤ n from h)⟩
  simp only [PyData.leavesShort, List.all_eq_true, decide_eq_true_eq]
  intro c hm
  have z : c < 1114112 := by
    unfold PyData.strOk at hc
    rw [← Array.all_toList, List.all_eq_true] at hc
    exact of_decide_eq_true (hc c hm)
  exact Nat.lt_trans z (by decide)
theorem tameL_nil : TameL [] 0 0 := ⟨rfl, rfl, rfl, by simp [PyData.depthAll], by simp [PyData.bulkAll]⟩
theorem tameL_cons (h : Tame d k m) (l : TameL ds k n) : TameL (d :: ds) k (m + n + 1) := by
  refine ⟨?_, ?_, ?_, ?_, ?_⟩
  · simp only [PyData.showableAll, h.1, l.1, Bool.and_self]
  · simp only [PyData.leavesShortAll, h.2, l.2, Bool.and_self]
  · simp only [layL, h.3, l.3, Bool.and_self]
  · have := h.4; have := l.4
    simp only [PyData.depthAll]
    omega
  · have := h.5; have := l.5
    simp only [PyData.bulkAll]
    omega
theorem tame_lst (l : TameL ds k n) : Tame (.list ds) (k + 1) n := by
  have := l.4; have := l.5
  refine ⟨by simpa only [PyData.showable] using l.1, by simpa only [PyData.leavesShort] using l.2, by simpa only [PC.lay] using l.3, ?_, ?_⟩
  · simp only [PyData.depth]; omega
  · simp only [PyData.bulk]; omega
theorem tame_tup (l : TameL ds k n) : Tame (.tuple ds) (k + 1) n := by
  have := l.4; have := l.5
  refine ⟨by simpa only [PyData.showable] using l.1, by simpa only [PyData.leavesShort] using l.2, by simpa only [PC.lay] using l.3, ?_, ?_⟩
  · simp only [PyData.depth]; omega
  · simp only [PyData.bulk]; omega
theorem Tame.lstL (l : Tame (.list ds) k n) : TameL ds k n := by
  obtain ⟨a, b, f, c, e⟩ := l
  simp only [PyData.showable, PyData.leavesShort, PyData.depth, PyData.bulk, PC.lay] at a b c e f
  exact ⟨a, b, f, by omega, e⟩
theorem Tame.tupL (l : Tame (.tuple ds) k n) : TameL ds k n := by
  obtain ⟨a, b, f, c, e⟩ := l
  simp only [PyData.showable, PyData.leavesShort, PyData.depth, PyData.bulk, PC.lay] at a b c e f
  exact ⟨a, b, f, by omega, e⟩
theorem TameL.get (l : TameL ds k n) (h : d ∈ ds) : Tame d k n := by
  obtain ⟨a, b, f, c, e⟩ := l
  induction ds with
  | nil => cases h
  | cons x r ih =>
    simp only [PyData.showableAll, PyData.leavesShortAll, layL, Bool.and_eq_true] at a b f
    simp only [PyData.depthAll, PyData.bulkAll] at c e
    rcases List.mem_cons.mp h with z | z
    · subst z
      exact ⟨a.1, b.1, f.1, by omega, by omega⟩
    · exact ih z a.2 b.2 f.2 (by omega) (by omega)
theorem Tame.shaped (t : Tame d k n) (hk : k ≤ 64) (h : d.hasDict = false) : SeqAt.shaped d = true := by
  have := t.depth
  unfold SeqAt.shaped
  rw [canLay_of d t.lay h, decide_eq_true (by omega)]
  rfl
theorem tameL_of : ∀ {ds : List PyData}, (∀ d ∈ ds, Tame d k m) → TameL ds k (ds.length * (m + 1))
  | [], h => tameL_nil.mono (by omega) (by omega)
  | d :: ds, h => by
    have z := tameL_cons (h d (List.mem_cons_self ..)) (tameL_of fun x hx => h x (List.mem_cons_of_mem _ hx))
    refine z.mono (Nat.le_refl _) ?_
    rw [List.length_cons, Nat.add_mul, Nat.one_mul]
    omega
end

/-! ### repr -/
section
variable {X : Cx}
def rRepr (K : PySem.W.Frag) : List V → Hp → VK → Prop := fun xs H Q =>
  ∃ Z v d, xs = [v] ∧ One H ∧ Dat K Z H d v ∧ Tame d 40 50000 ∧ Q (.str d.shown) H
theorem call_repr {k : Nat} (hg : X.A.guards = some []) (hr : Room k X.A) : CallR X (.builtin "repr") (rRepr X.K) := by
  intro pins s σ H xs us Q I r h
  obtain ⟨Z, v, d, rfl, o1, hd, t, q⟩ := h
  obtain ⟨u, rfl, rv⟩ := vals1 r
  obtain ⟨as, hr', ns⟩ := Dat.reads I o1 d v u hd rv
  have hu := hr.units
  have hd' := t.depth
  cases d with
  | none =>
    simp only [Dat] at hd
    subst hd
    cases (show _ = Value.none from rv)
    exact P.repr_of_none ⟨.str _, H, I.tok _, ⟨_, rfl⟩, q⟩
  | bool b =>
    simp only [Dat] at hd
    subst hd
    cases (show _ = Value.bool b from rv)
    refine P.repr_of_bool ?_
    cases b with
    | true => exact ⟨.str _, H, I.tok _, ⟨_, rfl⟩, q⟩
    | false => exact ⟨.str _, H, I.tok _, ⟨_, rfl⟩, q⟩
  | int i =>
    simp only [Dat] at hd
    subst hd
    obtain ⟨tk, rfl⟩ := (show ∃ t, _ = Value.int i t from rv)
    have sh : i.natAbs.log2 < 1920 := by simpa only [PyData.showable, decide_eq_true_eq] using t.show_
    exact P.repr_of_int sh ⟨.str _, H, I.tok _, ⟨_, rfl⟩, q⟩
  | str x =>
    simp only [Dat] at hd
    subst hd
    obtain ⟨tk, rfl⟩ := (show ∃ t, _ = Value.str x t from rv)
    exact P.repr_of_str ⟨.str _, H, I.tok _, ⟨_, rfl⟩, q⟩ (by simpa only [PyData.shown] using t.len (by decide))
  | list ds =>
    obtain ⟨a, ys, rfl, _⟩ := hd.lst
    cases (show _ = Value.ref a from rv)
    exact repr_ref hg I hr' t.show_ (fun _ => ns) (by omega) (t.len (by decide)) q
  | tuple ds =>
    obtain ⟨a, ys, rfl, _⟩ := hd.tup
    cases (show _ = Value.ref a from rv)
    exact repr_ref hg I hr' t.show_ (fun _ => ns) (by omega) (t.len (by decide)) q
  | dict ds =>
    obtain ⟨a, ys, rfl, _⟩ := hd.dct
    cases (show _ = Value.ref a from rv)
    exact repr_ref hg I hr' t.show_ (fun _ => ns) (by omega) (t.len (by decide)) q
end
end PC

set_option Elab.async false
set_option linter.all false
set_option maxRecDepth 100000
set_option maxHeartbeats 2000000
/-! PcC: wider rules by values, and what they ask of data. -/
namespace PC
open PySem PySem.Spec PyProof.Rows L2

section
variable {X : Cx}
/-- divmod by a great positive divisor -/
theorem call_divmodW : CallR X (.builtin "divmod") (fun xs H Q => ∃ i j, xs = [.int i, .int j] ∧ CDivW i j ∧
    ∀ p, H p = none → Q (.ref p) (upd H p (.tup [.int (i / j), .int (i % j)]))) := by
  intro pins s σ H xs us Q I r h
  obtain ⟨i, j, rfl, ⟨h1, h2⟩, q⟩ := h
  obtain ⟨u, w', rfl, ⟨t, rfl⟩, ⟨t', rfl⟩⟩ := vals2 r
  refine divmod_int (by omega) ?_ (.inl (PyProof.noPylong_of_log2 h2))
  have e1 : i.fdiv j = i / j := Int.fdiv_eq_ediv_of_nonneg i (by omega)
  have e2 : i.fmod j = i % j := Int.fmod_eq_emod_of_nonneg i (by omega)
  rw [e1, e2]
  refine ⟨.ref s.heap.objs.size, _, I.laid (o := .tup [.int (i / j), .int (i % j)]) (fun b o e => Heap.get?_push_of_some _ e) (Nat.le_refl _)
    ⟨by rw [sizeLine_eq]; simp, [.int (i / j) s.toks, .int (i % j) (s.toks + 1)], .cons ⟨_, rfl⟩ (.cons ⟨_, rfl⟩ .nil), ?_⟩,
    rfl, q _ (I.hok.fresh (Nat.le_refl _))⟩
  exact ⟨_, Heap.get?_push_size s.heap rfl, rfl, 0, rfl⟩

/-! ### + -/
theorem rd_lst {pins : List (Addr × Obj)} {σ : L2.St} {H : Hp} {s : Shared} {a : Addr} {xs : List V} (I : Inv X pins σ H s) (h : Rd H a (.lst xs)) :
    ∃ (its : List Value) (n : Nat), Vals xs its ∧ xs.length ≤ sizeLine ∧
      s.heap.get? a = some { cls := .type "list", data := .seq its.toArray n } := by
  obtain ⟨z, its, n, r, e⟩ := (show ObjOk X.prog X.w H s.heap a (.lst xs) from h.ok I.hok)
  exact ⟨its, n, r, z, e⟩
def rCatL : R2 := fun x y H Q => ∃ l b xs zs, x = .ref l ∧ y = .ref b ∧ Rd H l (.lst xs) ∧ Rd H b (.lst zs) ∧
  xs.length + zs.length ≤ sizeLine ∧ ∀ p, H p = none → Q (.ref p) (upd H p (.lst (xs ++ zs)))
theorem op_catL : OpR X (binaryOp .Add) rCatL := by
  intro pins s σ H x y v u Q I rx ry h
  obtain ⟨l, b, xs, zs, rfl, rfl, hH, hB, hz, q⟩ := h
  cases (show v = Value.ref l from rx)
  cases (show u = Value.ref b from ry)
  obtain ⟨its, n, r, hl, e⟩ := rd_lst I hH
  obtain ⟨its2, n2, r2, hl2, e2⟩ := rd_lst I hB
  have le1 := r.length
  have le2 := r2.length
  refine PySem.P.add_list e e2 ?_ (by rw [List.size_toArray, List.size_toArray]; omega)
  have ea : its.toArray ++ its2.toArray = (its ++ its2).toArray := by simp
  rw [ea]
  exact ⟨.ref _, _, I.lnew (t' := s.toks) (r.append r2) (by rw [List.length_append]; omega), rfl, q _ I.fresh⟩
/-- tuples, the left one empty: the right one itself -/
def rCatT0 (K : PySem.W.Frag) : R2 := fun x y H Q => ∃ a b ys, x = .ref a ∧ y = .ref b ∧ SqT K H a [] ∧ SqT K H b ys ∧ Q (.ref b) H
theorem op_catT0 : OpR X (binaryOp .Add) (rCatT0 X.K) := by
  intro pins s σ H x y v u Q I rx ry h
  obtain ⟨a, b, ys, rfl, rfl, ha, hb, q⟩ := h
  cases (show v = Value.ref a from rx)
  cases (show u = Value.ref b from ry)
  obtain ⟨its, r1, p1, _⟩ := I.tuple ha
  obtain ⟨its2, r2, p2, _⟩ := I.tuple hb
  obtain ⟨⟨cls, dd, data, sl⟩, ho, hc, n, hd⟩ := id p1
  obtain ⟨⟨cls2, dd2, data2, sl2⟩, ho2, hc2, n2, hd2⟩ := id p2
  simp only at hc hd hc2 hd2
  subst hc hd hc2 hd2
  cases r1
  exact concat_meets ⟨_, ho, rfl⟩ ⟨_, ho2, rfl⟩ noFill_tuple_add seq_tuple_add PySem.F.slot_tuple_add PySem.F.entry_tuple_add
    (PySem.F.args_tuple_add_2 _ _) (tuple_addW0 a b _ _ n n2 dd dd2 sl sl2 rfl) ⟨ho, ho2, ⟨.ref b, H, I, rfl, q⟩⟩
def rAddI : R2 := rI0 fun i j => .int (i + j)
def rAddS : R2 := fun x y H Q => ∃ i j, x = .str i ∧ y = .str j ∧ i.length + j.length ≤ sizeLine ∧ Q (.str (i ++ j)) H
/-- + of ints, texts, lists, tuples -/
def rAdd (K : PySem.W.Frag) : R2 := fun x y H Q => rAddI x y H Q ∨ rAddS x y H Q ∨ rCatL x y H Q ∨ rCatT0 K x y H Q ∨ rCatT K x y H Q
theorem op_addA : OpR X (binaryOp .Add) (rAdd X.K) := OpR.or op_add (OpR.or op_add_str (OpR.or op_catL (OpR.or op_catT0 op_catT)))

/-! ### slices -/
theorem getItem_whole {prog : Program} {w : World} {A : Around} {E : Value → Shared → Prop} {s : Shared} {t sl : Addr} {items : Array Value} {vl vu : Value}
    {lo hi : Option Int} {Q : Value → Shared → Prop} (ht : IsTup s.heap t items) (hs : s.heap.IsSliceOf sl vl vu .none)
    (pl : IsPart vl lo) (pu : IsPart vu hi) (hw : HT.sIx items.size 0 lo = 0 ∧ HT.sIx items.size items.size hi = items.size)
    (h : Q (.ref t) s) (hsz : items.size ≤ sizeLine) : wpAny (model prog w) A (getItem (.ref t) (.ref sl)) Q E s := by
  obtain ⟨os, hos, hcs, hds⟩ := id hs
  have hTs : s.TypeIs (.ref sl) "slice" := ⟨os, hos, hcs⟩
  unfold getItem
  try with_reducible refine wpAny_holding ?_
  first | refine wpAny_bind (wpAny_pure ?_) | skip
  refine wpAny_bind (wpAny_sequenceKey ht.typeIs (by decide) ?_)
  refine wpAny_bind (wpAny_callSpecial?_slot (name := Str.ofString "__getitem__") ht.typeIs PyProof.Rows.slot_tuple_getitem
    (wpAny_call_entry PyProof.Rows.slot_tuple_getitem ht.typeIs entry_tuple_getitem ?_ (args_tuple_getitem _ _)))
  show wpAny _ _ (Builtin.Tuple.tupleItemsOf (.ref t) >>= _) _ _ s
  refine wpAny_bind (tupleItemsOf_ ht ?_)
  refine wpAny_bind (wpAny_typeOf hTs ?_)
  rw [if_pos (by decide)]
  refine wpAny_bind (HT.sliceApplied_gen hs pl pu ?_)
  have hyes : ((((HT.sIx items.size 0 lo : Nat) : Int) == 0 && (1 : Int) == 1 &&
      (HT.sIx items.size items.size hi - HT.sIx items.size 0 lo) == items.size) = true) := by
    rw [hw.1, hw.2]; simp
  show wpAny _ _ (if (((HT.sIx items.size 0 lo : Nat) : Int) == 0 && (1 : Int) == 1 &&
      (HT.sIx items.size items.size hi - HT.sIx items.size 0 lo) == items.size) = true then _ else _) _ _ s
  rw [if_pos hyes]
  show wpAny _ _ (Builtin.Tuple.tupleIsExact (.ref t) >>= _) _ _ s
  unfold Builtin.Tuple.tupleIsExact
  refine wpAny_bind (wpAny_bind (wpAny_typeOf ht.typeIs (wpAny_pure ?_)))
  rw [if_pos (by decide)]
  first
    | exact ⟨_, rfl, wpAny_pure h⟩
    | exact wpAny_bind (wpAny_pure ⟨_, rfl, wpAny_pure h⟩)
    | exact wpAny_pure ⟨_, rfl, wpAny_pure h⟩
    | (wp_walk; exact ⟨_, rfl, wpAny_pure h⟩)
def rSlT0 (K : PySem.W.Frag) : V → Option Int → Option Int → Hp → VK → Prop := fun x lo hi H Q => ∃ a xs, x = .ref a ∧ SqT K H a xs ∧
  (HT.sIx xs.length 0 lo = 0 ∧ HT.sIx xs.length xs.length hi = xs.length) ∧ Q (.ref a) H
theorem sl_tup0 : SlR X (rSlT0 X.K) := by
  intro pins s σ H x v vl vu lo hi sl Q I rx hs pl pu h
  obtain ⟨a, xs, rfl, hx, hw, q⟩ := h
  cases (show v = Value.ref a from rx)
  obtain ⟨its, r, ht, hz⟩ := I.tuple hx
  have hlen : its.toArray.size = xs.length := by rw [List.size_toArray]; exact r.length.symm
  exact ⟨"tuple", _, PyProof.Rows.slot_tuple_getitem.lookup, ht.typeIs,
    getItem_whole ht hs pl pu (by rw [hlen]; exact hw) ⟨.ref a, H, I, rfl, q⟩ (by rw [hlen]; exact hz)⟩
/-- a[lo:hi] of lists, tuples, texts -/
def rSl (K : PySem.W.Frag) : V → Option Int → Option Int → Hp → VK → Prop := fun x lo hi H Q =>
  rSlL K x lo hi H Q ∨ rSlT0 K x lo hi H Q ∨ rSlT K x lo hi H Q ∨ rSlS x lo hi H Q
theorem sl_any : SlR X (rSl X.K) := SlR.or sl_list (SlR.or sl_tup0 (SlR.or sl_tup sl_str))

/-! ### len, list, tuple, isinstance, ==, in -/
def rLen (K : PySem.W.Frag) : List V → Hp → VK → Prop := fun xs H Q =>
  (∃ p ys, xs = [.ref p] ∧ (SqL K H p ys ∨ SqT K H p ys) ∧ Q (.int ys.length) H) ∨ (∃ z, xs = [.str z] ∧ z.length ≤ sizeLine ∧ Q (.int z.length) H)
theorem call_lenA : CallR X (.builtin "len") (rLen X.K) := CallR.or call_len_seq call_len_str
def rList (K : PySem.W.Frag) : List V → Hp → VK → Prop := fun xs H Q => ∃ p ys, xs = [.ref p] ∧ (SqL K H p ys ∨ SqT K H p ys) ∧ ∀ l, H l = none → Q (.ref l) (upd H l (.lst ys))
theorem call_listA : CallR X (.type "list") (rList X.K) := call_list_of
def rTuple (K : PySem.W.Frag) : List V → Hp → VK → Prop := fun xs H Q => ∃ p ys, xs = [.ref p] ∧
  ((SqL K H p ys ∧ ∀ l, H l = none → Q (.ref l) (upd H l (.tup ys))) ∨ (SqT K H p ys ∧ Q (.ref p) H))
theorem call_tupleA : CallR X (.type "tuple") (rTuple X.K) := call_tuple_of
/-- == of scalars, or of data -/
def rEqDat (K : PySem.W.Frag) : R2 := fun x y H Q => ∃ Z d e, One H ∧ Dat K Z H d x ∧ Dat K Z H e y ∧ SeqAt.shaped d = true ∧ SeqAt.shaped e = true ∧ Q (.bl (PyData.eqv d e)) H
theorem op_eqDat {k : Nat} (hr : Room k X.A) : OpR X (compareOp .Eq) (rEqDat X.K) := by
  intro pins s σ H x y v u Q I rx ry h
  obtain ⟨Z, d, e, o1, hd, he, sd, se, q⟩ := h
  obtain ⟨as, r1, _⟩ := Dat.reads I o1 d x v hd rx
  obtain ⟨bs, r2, _⟩ := Dat.reads I o1 e y u he ry
  exact SeqAt.compareEq_shaped r1 r2 sd se hr.units ⟨.bl _, H, I, rfl, q⟩
def rNeDat (K : PySem.W.Frag) : R2 := fun x y H Q => ∃ Z d e, One H ∧ Dat K Z H d x ∧ Dat K Z H e y ∧ SeqAt.shaped d = true ∧ SeqAt.shaped e = true ∧ Q (.bl (!PyData.eqv d e)) H
theorem op_neDat {k : Nat} (hr : Room k X.A) : OpR X (compareOp .NotEq) (rNeDat X.K) := by
  intro pins s σ H x y v u Q I rx ry h
  obtain ⟨Z, d, e, o1, hd, he, sd, se, q⟩ := h
  obtain ⟨as, r1, _⟩ := Dat.reads I o1 d x v hd rx
  obtain ⟨bs, r2, _⟩ := Dat.reads I o1 e y u he ry
  exact SeqAt.compareNe_shaped r1 r2 sd se hr.units ⟨.bl _, H, I, rfl, q⟩
def rEqA (K : PySem.W.Frag) : R2 := fun x y H Q => rEq x y H Q ∨ rEqDat K x y H Q
def rNeA (K : PySem.W.Frag) : R2 := fun x y H Q => rNe x y H Q ∨ rNeDat K x y H Q
theorem op_eqA {k : Nat} (hr : Room k X.A) : OpR X (compareOp .Eq) (rEqA X.K) := OpR.or op_eq (op_eqDat hr)
theorem op_neA {k : Nat} (hr : Room k X.A) : OpR X (compareOp .NotEq) (rNeA X.K) := OpR.or op_ne (op_neDat hr)
/-- one sign in a text; a text in a text; a flat thing in a list or tuple -/
def rInC : R2 := fun x y H Q => ∃ (c : Nat) (z : Str), x = .str ⟨#[c]⟩ ∧ y = .str z ∧ Q (.bl (decide (c ∈ z.cps.toList))) H
def rNotInC : R2 := fun x y H Q => ∃ (c : Nat) (z : Str), x = .str ⟨#[c]⟩ ∧ y = .str z ∧ Q (.bl (!decide (c ∈ z.cps.toList))) H
def rInA (K : PySem.W.Frag) : R2 := fun x y H Q => rInC x y H Q ∨ rIn K false x y H Q
def rNotInA (K : PySem.W.Frag) : R2 := fun x y H Q => rNotInC x y H Q ∨ rIn K true x y H Q
theorem op_inA : OpR X (compareOp .In) (rInA X.K) := OpR.or op_in_sign op_in_seq
theorem op_notInA : OpR X (compareOp .NotIn) (rNotInA X.K) := OpR.or op_notIn_sign op_notIn_seq
end

/-! ### what they ask, of data -/
section
variable {K : PySem.W.Frag} {p : Addr} {Z : List Addr} {H H' : Hp} {Q : VK} {x y : V} {d e : PyData} {ds es : List PyData}
/-- the places of Z are taken, p is one of them, the interpreter's table is known -/
structure Wd (p : Addr) (Z : List Addr) (H : Hp) : Prop where
  one : One H
  occ : ∀ b ∈ Z, H b ≠ none
  mem : p ∈ Z
theorem Wd.ne {n : Addr} (h : Wd p Z H) (hn : H n = none) : n ∉ Z := fun z => h.occ n z hn
theorem Wd.up (h : Wd p Z H) (r : R p H H') : Wd p Z H' := by
  refine ⟨r.one h.one, fun b hb => ?_, h.mem⟩
  by_cases z : b = p
  · subst z
    exact r.occ (h.occ _ hb)
  · cases e : H b with
    | none => exact absurd e (h.occ b hb)
    | some o =>
      rw [r.keep b o z e]
      exact fun w => nomatch w
theorem Dat.to {v : V} (h : Dat K Z H d v) (w : Wd p Z H) (r : R p H H') : Dat K Z H' d v := Dat.up r w.mem d v h
theorem DatL.to {v : List V} (h : DatL K Z H ds v) (w : Wd p Z H) (r : R p H H') : DatL K Z H' ds v := DatL.up r w.mem ds v h
theorem s_new_lst {vs : List V} (hp : Wd p Z H) (l : DatL K Z H ds vs) (q : ∀ H' v, R p H H' → Dat K Z H' (.list ds) v → Q v H') :
    ∀ n, H n = none → Q (.ref n) (upd H n (.lst vs)) := fun n hn =>
  q _ _ (R.new hn) (dat_lst (hp.ne hn) (.inl upd_same) (l.to hp (R.new hn)))
theorem s_new_tup {vs : List V} (hp : Wd p Z H) (l : DatL K Z H ds vs) (q : ∀ H' v, R p H H' → Dat K Z H' (.tuple ds) v → Q v H') :
    ∀ n, H n = none → Q (.ref n) (upd H n (.tup vs)) := fun n hn =>
  q _ _ (R.new hn) (dat_tup (hp.ne hn) (SqT.of upd_same) (l.to hp (R.new hn)))
theorem s_add_int {i j : Int} (q : Q (.int (i + j)) H) : rAdd K (.int i) (.int j) H Q := .inl ⟨i, j, rfl, rfl, q⟩
theorem s_add_str {i j : Str} (h : i.length + j.length ≤ sizeLine) (q : Q (.str (i ++ j)) H) : rAdd K (.str i) (.str j) H Q := .inr (.inl ⟨i, j, rfl, rfl, h, q⟩)
theorem s_add_lst (hp : Wd p Z H) (hx : Dat K Z H (.list ds) x) (hy : Dat K Z H (.list es) y) (hz : ds.length + es.length ≤ sizeLine)
    (q : ∀ H' v, R p H H' → Dat K Z H' (.list (ds ++ es)) v → Q v H') : rAdd K x y H Q := by
  obtain ⟨a, xs, rfl, na, ha, la⟩ := hx.lst
  obtain ⟨b, ys, rfl, nb, hb, lb⟩ := hy.lst
  refine .inr (.inr (.inl ⟨a, b, xs, ys, rfl, rfl, ha, hb, by rw [la.length, lb.length]; exact hz, ?_⟩))
  exact s_new_lst hp (la.append lb) q
theorem s_add_tup (hp : Wd p Z H) (hx : Dat K Z H (.tuple ds) x) (hy : Dat K Z H (.tuple es) y) (hz : ds.length + es.length ≤ sizeLine)
    (q : ∀ H' v, R p H H' → Dat K Z H' (.tuple (ds ++ es)) v → Q v H') : rAdd K x y H Q := by
  obtain ⟨a, xs, rfl, na, ha, la⟩ := hx.tup
  obtain ⟨b, ys, rfl, nb, hb, lb⟩ := hy.tup
  by_cases hd : ds = []
  · subst hd
    have e : xs = [] := by simpa only [DatL] using la
    subst e
    exact .inr (.inr (.inr (.inl ⟨a, b, ys, rfl, rfl, ha, hb, q _ _ (R.refl p H) (by simpa using hy)⟩)))
  · refine .inr (.inr (.inr (.inr ⟨a, b, xs, ys, rfl, rfl, ha, hb, ?_, by rw [la.length, lb.length]; exact hz, fun z => ?_, fun z => ?_⟩)))
    · intro z
      rw [z] at la
      have := la.length
      cases ds with
      | nil => exact hd rfl
      | cons _ _ => simp at this
    · subst z
      have e : es = [] := by have := lb.length; cases es with | nil => rfl | cons _ _ => simp at this
      subst e
      exact q _ _ (R.refl p H) (by simpa using hx)
    · exact s_new_tup hp (la.append lb) q
/-- the slice of a list of data -/
def sliD (xs : List PyData) (lo hi : Option Int) : List PyData := (xs.drop (HT.sIx xs.length 0 lo)).take (HT.sIx xs.length xs.length hi - HT.sIx xs.length 0 lo)
theorem DatL.cut {vs : List V} {lo hi : Option Int} (l : DatL K Z H ds vs) : DatL K Z H (sliD ds lo hi) (cutV vs lo hi) := by
  unfold sliD cutV
  rw [l.length]
  exact (l.drop _).take _
theorem s_sl_lst {lo hi : Option Int} (hp : Wd p Z H) (hx : Dat K Z H (.list ds) x) (q : ∀ H' v, R p H H' → Dat K Z H' (.list (sliD ds lo hi)) v → Q v H') : rSl K x lo hi H Q := by
  obtain ⟨a, xs, rfl, na, ha, la⟩ := hx.lst
  exact .inl ⟨a, xs, rfl, .inl ha, s_new_lst hp la.cut q⟩
theorem s_sl_tup {lo hi : Option Int} (hp : Wd p Z H) (hx : Dat K Z H (.tuple ds) x) (q : ∀ H' v, R p H H' → Dat K Z H' (.tuple (sliD ds lo hi)) v → Q v H') : rSl K x lo hi H Q := by
  obtain ⟨a, xs, rfl, na, ha, la⟩ := hx.tup
  by_cases w : HT.sIx xs.length 0 lo = 0 ∧ HT.sIx xs.length xs.length hi = xs.length
  · refine .inr (.inl ⟨a, xs, rfl, ha, w, q _ _ (R.refl p H) ?_⟩)
    have e : sliD ds lo hi = ds := by
      unfold sliD
      rw [← la.length, w.1, w.2, la.length]
      simp
    rw [e]; exact hx
  · exact .inr (.inr (.inl ⟨a, xs, rfl, ha, w, s_new_tup hp la.cut q⟩))
theorem s_sl_str {z : Str} {lo hi : Option Int} (h : z.length ≤ sizeLine) (q : Q (.str (cutS z lo hi)) H) : rSl K (.str z) lo hi H Q := .inr (.inr (.inr ⟨z, rfl, h, q⟩))
theorem s_len_lst (hx : Dat K Z H (.list ds) x) (q : Q (.int ds.length) H) : rLen K [x] H Q := by
  obtain ⟨a, xs, rfl, na, ha, la⟩ := hx.lst
  exact .inl ⟨a, xs, rfl, .inl (.inl ha), by rw [la.length]; exact q⟩
theorem s_len_tup (hx : Dat K Z H (.tuple ds) x) (q : Q (.int ds.length) H) : rLen K [x] H Q := by
  obtain ⟨a, xs, rfl, na, ha, la⟩ := hx.tup
  exact .inl ⟨a, xs, rfl, .inr ha, by rw [la.length]; exact q⟩
theorem s_len_str {z : Str} (h : z.length ≤ sizeLine) (q : Q (.int z.length) H) : rLen K [.str z] H Q := .inr ⟨z, rfl, h, q⟩
theorem s_list_lst (hp : Wd p Z H) (hx : Dat K Z H (.list ds) x) (q : ∀ H' v, R p H H' → Dat K Z H' (.list ds) v → Q v H') : rList K [x] H Q := by
  obtain ⟨a, xs, rfl, na, ha, la⟩ := hx.lst
  exact ⟨a, xs, rfl, .inl (.inl ha), s_new_lst hp la q⟩
theorem s_list_tup (hp : Wd p Z H) (hx : Dat K Z H (.tuple ds) x) (q : ∀ H' v, R p H H' → Dat K Z H' (.list ds) v → Q v H') : rList K [x] H Q := by
  obtain ⟨a, xs, rfl, na, ha, la⟩ := hx.tup
  exact ⟨a, xs, rfl, .inr ha, s_new_lst hp la q⟩
theorem s_tuple_lst (hp : Wd p Z H) (hx : Dat K Z H (.list ds) x) (q : ∀ H' v, R p H H' → Dat K Z H' (.tuple ds) v → Q v H') : rTuple K [x] H Q := by
  obtain ⟨a, xs, rfl, na, ha, la⟩ := hx.lst
  exact ⟨a, xs, rfl, .inl ⟨.inl ha, s_new_tup hp la q⟩⟩
theorem s_tuple_tup (hx : Dat K Z H (.tuple ds) x) (q : Q x H) : rTuple K [x] H Q := by
  obtain ⟨a, xs, rfl, na, ha, la⟩ := hx.tup
  exact ⟨a, xs, rfl, .inr ⟨ha, q⟩⟩
theorem s_repr (o : One H) (hx : Dat K Z H d x) (t : Tame d 40 50000) (q : Q (.str d.shown) H) : rRepr K [x] H Q := ⟨Z, x, d, rfl, o, hx, t, q⟩
/-- an item at a place that is in bounds -/
theorem s_ix_lst {i : Int} (hx : Dat K Z H (.list ds) x) (h0 : 0 ≤ i) (h1 : i < ds.length) (q : ∀ v d, ds[i.toNat]? = some d → Dat K Z H d v → Q v H) : rIx K x (.int i) H Q := by
  obtain ⟨a, xs, rfl, na, ha, la⟩ := hx.lst
  have hi : i.toNat < ds.length := by omega
  obtain ⟨v, hv, hd⟩ := la.get (List.getElem?_eq_getElem hi)
  have e : ((i.toNat : Nat) : Int) = i := Int.toNat_of_nonneg h0
  exact .inl ⟨a, xs, i, v, rfl, rfl, .inl ha, by rw [← e]; exact atI_nat hv, q v _ (List.getElem?_eq_getElem hi) hd⟩
theorem s_ix_tup {i : Int} (hx : Dat K Z H (.tuple ds) x) (h0 : 0 ≤ i) (h1 : i < ds.length) (q : ∀ v d, ds[i.toNat]? = some d → Dat K Z H d v → Q v H) : rIx K x (.int i) H Q := by
  obtain ⟨a, xs, rfl, na, ha, la⟩ := hx.tup
  have hi : i.toNat < ds.length := by omega
  obtain ⟨v, hv, hd⟩ := la.get (List.getElem?_eq_getElem hi)
  have e : ((i.toNat : Nat) : Int) = i := Int.toNat_of_nonneg h0
  exact .inr (.inl ⟨a, xs, i, v, rfl, rfl, ha, by rw [← e]; exact atI_nat hv, q v _ (List.getElem?_eq_getElem hi) hd⟩)
theorem s_ix_str {z : Str} {i : Int} (hz : z.length ≤ sizeLine) (h0 : 0 ≤ i) (h1 : i < z.length) (q : ∀ c, z.cps.toList[i.toNat]? = some c → Q (.str ⟨#[c]⟩) H) : rIx K (.str z) (.int i) H Q := by
  have hi : i.toNat < z.cps.toList.length := by
    have : z.cps.toList.length = z.length := by simp [Str.length]
    omega
  have e : ((i.toNat : Nat) : Int) = i := Int.toNat_of_nonneg h0
  obtain ⟨c, hc⟩ : ∃ c, z.cps.toList[i.toNat]? = some c := ⟨_, List.getElem?_eq_getElem hi⟩
  exact .inr (.inr ⟨z, i, c, rfl, rfl, hz, by rw [← e]; exact atI_nat hc, q _ hc⟩)
/-- a type's name -/
def tyD : PyData → String
  | .none => "NoneType" | .bool _ => "bool" | .int _ => "int" | .str _ => "str" | .list _ => "list" | .tuple _ => "tuple" | .dict _ => "dict"
theorem Dat.ty (h : Dat K Z H d x) : TyX K H x (.type (tyD d)) := by
  cases d with
  | none => simp only [Dat] at h; subst h; exact .base .non
  | bool b => simp only [Dat] at h; subst h; exact .base (.bl b)
  | int b => simp only [Dat] at h; subst h; exact .base (.int b)
  | str b => simp only [Dat] at h; subst h; exact .base (.str b)
  | list ds =>
    obtain ⟨a, xs, rfl, _, h, _⟩ := h.lst
    rcases h with h | ⟨o, h⟩
    · exact .base (.lst h)
    · exact .base (.frz h)
  | tuple ds =>
    obtain ⟨a, xs, rfl, _, h, _⟩ := h.tup
    rcases h with (h | ⟨o, h⟩) | ⟨o, _, _, h, c, _⟩
    · exact .base (.tup h)
    · exact .fTuple h
    · exact .kTuple h c
  | dict ds =>
    obtain ⟨a, xs, rfl, _, h, _⟩ := h.dct
    exact .base (.dK h)
/-- isinstance of data by a built-in type's name -/
def isD (d : PyData) (T : String) : Bool := tyD d == T || (T == "int" && tyD d == "bool")
theorem kit_table : ∀ a ∈ ["NoneType", "bool", "int", "str", "list", "tuple", "dict"], ∀ T ∈ ["int", "bool", "str", "list", "tuple", "dict"],
    kitB a T = some (a == T || (T == "int" && a == "bool")) := by decide +kernel
theorem kit_isD (d : PyData) {T : String} (hT : T = "int" ∨ T = "bool" ∨ T = "str" ∨ T = "list" ∨ T = "tuple" ∨ T = "dict") : kitB (tyD d) T = some (isD d T) := by
  refine kit_table _ ?_ T ?_
  · cases d <;> simp [tyD]
  · rcases hT with rfl | rfl | rfl | rfl | rfl | rfl <;> simp
theorem s_isi {T : String} (hx : Dat K Z H d x) (hT : T = "int" ∨ T = "bool" ∨ T = "str" ∨ T = "list" ∨ T = "tuple" ∨ T = "dict") (q : Q (.bl (isD d T)) H) : rIsi K [x, .ty T] H Q :=
  ⟨x, .ty T, _, _, isD d T, rfl, .ty T, hx.ty, kit_ty (kit_isD d hT), q⟩
theorem s_eq_sc (h : scal x y = true) (q : Q (.bl (decide (x = y))) H) : rEqA K x y H Q := .inl ⟨h, q⟩
theorem s_ne_sc (h : scal x y = true) (q : Q (.bl (!decide (x = y))) H) : rNeA K x y H Q := .inl ⟨h, q⟩
theorem s_eq_int {i j : Int} (q : Q (.bl (decide (i = j))) H) : rEqA K (.int i) (.int j) H Q := .inl ⟨rfl, by
  have e : decide (V.int i = V.int j) = decide (i = j) := by simp
  rw [e]; exact q⟩
theorem s_ne_int {i j : Int} (q : Q (.bl (!decide (i = j))) H) : rNeA K (.int i) (.int j) H Q := .inl ⟨rfl, by
  have e : decide (V.int i = V.int j) = decide (i = j) := by simp
  rw [e]; exact q⟩
theorem s_eq_str {i j : Str} (q : Q (.bl (decide (i = j))) H) : rEqA K (.str i) (.str j) H Q := .inl ⟨rfl, by
  have e : decide (V.str i = V.str j) = decide (i = j) := by simp
  rw [e]; exact q⟩
theorem s_ne_str {i j : Str} (q : Q (.bl (!decide (i = j))) H) : rNeA K (.str i) (.str j) H Q := .inl ⟨rfl, by
  have e : decide (V.str i = V.str j) = decide (i = j) := by simp
  rw [e]; exact q⟩
theorem s_eq_dat (o : One H) (hx : Dat K Z H d x) (hy : Dat K Z H e y) (sd : SeqAt.shaped d = true) (se : SeqAt.shaped e = true) (q : Q (.bl (PyData.eqv d e)) H) : rEqA K x y H Q :=
  .inr ⟨Z, d, e, o, hx, hy, sd, se, q⟩
theorem s_in_c {c : Nat} {z : Str} (q : Q (.bl (decide (c ∈ z.cps.toList))) H) : rInA K (.str ⟨#[c]⟩) (.str z) H Q := .inl ⟨c, z, rfl, rfl, q⟩
theorem s_notIn_c {c : Nat} {z : Str} (q : Q (.bl (!decide (c ∈ z.cps.toList))) H) : rNotInA K (.str ⟨#[c]⟩) (.str z) H Q := .inl ⟨c, z, rfl, rfl, q⟩
end
end PC

set_option Elab.async false
set_option linter.all false
set_option maxRecDepth 100000
set_option maxHeartbeats 2000000
/-! PcD: readings step by step; comprehensions over data; the store of draws. -/
namespace PC
open PySem PySem.Spec PyProof.Rows L2

/-- a comprehension behind its iterator's making -/
def LcG (J : It) (g : TG) (tt : TT) (te : TE) (vs : List Nat) (σ : L2.St) (H1 : Hp) (Q : VK) : Prop :=
  ∀ D, H1 D = none → ∃ W : Nat → Nat → Hp → Prop, (∃ m, W 0 m (upd H1 D (.lst []))) ∧ ∀ i m H, W i m H →
        (J.stop i H ∧ Q (.ref D) H) ∨ (J.go i H ∧ ∃ Nx : Hp → Prop, (∀ H', Nx H' → ∃ m', m' < m ∧ W (i + 1) m' H') ∧
          ∀ x H', J.yld i H x H' → g x (wipe σ vs) H' fun σ2 H2 => wipe σ2 vs = wipe σ vs ∧ tt σ2 H2 fun b H3 =>
            if b = true then te σ2 H3 fun y H4 => ∃ acc, H4 D = some (.lst acc) ∧ acc.length < sizeLine ∧ Nx (upd H4 D (.lst (acc ++ [y]))) else Nx H3)
/-- a for behind its iterator's making -/
def ForG (J : It) (g : TG) (tb : TS) (D : Ends) (σ : L2.St) (H1 : Hp) : Prop := ∃ W : Nat → Nat → L2.St → Hp → Prop, (∃ m, W 0 m σ H1) ∧ ∀ i m σ H, W i m σ H →
    (J.stop i H ∧ D.nx σ H) ∨ (J.go i H ∧ ∃ N : L2.St → Hp → Prop, (∀ σ' H', N σ' H' → ∃ m', m' < m ∧ W (i + 1) m' σ' H') ∧
      ∀ x H', J.yld i H x H' → g x σ H' fun σ2 H2 => tb { D with nx := N, ct := N, bk := D.nx } σ2 H2)
/-- a new list, a new tuple of these values -/
def NewL (xs : List V) (H : Hp) (Q : VK) : Prop := xs.length ≤ sizeLine ∧ ∀ p, H p = none → Q (.ref p) (upd H p (.lst xs))
def NewT (xs : List V) (H : Hp) (Q : VK) : Prop := xs.length ≤ sizeLine ∧ ∀ p, H p = none → Q (.ref p) (upd H p (.tup xs))
section
variable {σ : L2.St} {H : Hp} {Q : VK} {D : Ends} {v : V} {te ta tb tc : TE} {t u : TS} {tt t1 t2 : TT} {tr : TA} {QA : List V → Hp → Prop} {QT : Bool → Hp → Prop}
/-! ### expressions -/
theorem s_var {i : Nat} (h : σ[i]? = some (some v)) (q : Q v H) : tVar i σ H Q := ⟨v, h, q⟩
theorem s_c (q : Q v H) : tC v σ H Q := q
theorem s_op {r : R2} (q : ta σ H fun x H1 => tb σ H1 fun y H2 => r x y H2 Q) : tOp r ta tb σ H Q := q
theorem s_un {r : V → Hp → VK → Prop} (q : ta σ H fun x H1 => r x H1 Q) : tUn r ta σ H Q := q
theorem s_rI0 {g : Int → Int → V} {i j : Int} (q : Q (g i j) H) : rI0 g (.int i) (.int j) H Q := ⟨i, j, rfl, rfl, q⟩
theorem s_rI {C : Int → Int → Prop} {g : Int → Int → V} {i j : Int} (c : C i j) (q : Q (g i j) H) : rI C g (.int i) (.int j) H Q := ⟨i, j, rfl, rfl, c, q⟩
theorem s_rU {g : Int → V} {i : Int} (q : Q (g i) H) : rU g (.int i) H Q := ⟨i, rfl, q⟩
theorem s_nil (q : QA [] H) : tNil σ H QA := q
theorem s_cons (q : te σ H fun x H1 => tr σ H1 fun xs H2 => QA (x :: xs) H2) : tCons te tr σ H QA := q
theorem s_cb {r : List V → Hp → VK → Prop} (q : tr σ H fun vs H1 => r vs H1 Q) : tCB r tr σ H Q := q
theorem s_ck {r : List V → List V → Hp → VK → Prop} {tk : TA} (q : tr σ H fun vs H1 => tk σ H1 fun zs H2 => r vs zs H2 Q) : tCK r tr tk σ H Q := q
theorem s_if (q : tt σ H fun c H1 => if c = true then ta σ H1 Q else tb σ H1 Q) : tIf tt ta tb σ H Q := q
theorem s_andV (q : ta σ H fun x H1 => ∃ c, x = .bl c ∧ if c = true then tb σ H1 Q else Q (.bl false) H1) : tAndV ta tb σ H Q := q
theorem s_orV (q : ta σ H fun x H1 => ∃ c, x = .bl c ∧ if c = true then Q (.bl true) H1 else tb σ H1 Q) : tOrV ta tb σ H Q := q
theorem s_notV (q : ta σ H fun x H1 => ∃ c, x = .bl c ∧ Q (.bl (!c)) H1) : tNotV ta σ H Q := q
theorem s_chain {r r' : R2} (q : ta σ H fun x H1 => tb σ H1 fun y H2 => r x y H2 fun z H3 => ∃ k, z = .bl k ∧
    (if k = true then tc σ H3 fun w' H4 => r' y w' H4 Q else Q (.bl false) H3)) : tChain r r' ta tb tc σ H Q := q
theorem s_lst (q : tr σ H fun xs H1 => NewL xs H1 Q) : tLst tr σ H Q := q
theorem s_tup (q : tr σ H fun xs H1 => NewT xs H1 Q) : tTup tr σ H Q := q
theorem s_slice {r : V → Option Int → Option Int → Hp → VK → Prop} {tl th : TO} (q : te σ H fun x H1 => tl σ H1 fun l H2 => th σ H2 fun u H3 => r x l u H3 Q) : tSl r te tl th σ H Q := q
theorem s_part {Qo : Option Int → Hp → Prop} (q : te σ H fun x H1 => ∃ i, x = .int i ∧ Qo (some i) H1) : tPart te σ H Qo := q
theorem s_noPart {Qo : Option Int → Hp → Prop} (q : Qo none H) : tNoPart σ H Qo := q
/-! ### tests -/
theorem s_test (q : te σ H fun x H' => ∃ k, x = .bl k ∧ QT k H') : tTest te σ H QT := q
theorem s_tB (q : te σ H fun x H' => ∃ k, x = .bl k ∧ QT k H') : tB te σ H QT := q
theorem s_not (q : tt σ H fun c H1 => QT (!c) H1) : tNot tt σ H QT := q
theorem s_and (q : t1 σ H fun c H1 => if c = true then t2 σ H1 QT else QT false H1) : tAnd t1 t2 σ H QT := q
theorem s_or (q : t1 σ H fun c H1 => if c = true then QT true H1 else t2 σ H1 QT) : tOr t1 t2 σ H QT := q
/-! ### statements -/
theorem s_seq (q : t { D with nx := u D } σ H) : tSeq t u D σ H := q
theorem s_next (q : D.nx σ H) : tNext D σ H := q
theorem s_ret (q : te σ H D.rt) : tRet te D σ H := q
theorem s_retN (q : D.rt .non H) : tRetN D σ H := q
theorem s_drop (q : te σ H fun _ H1 => D.nx σ H1) : tDrop te D σ H := q
theorem s_ifS (q : tt σ H fun b H1 => if b = true then t D σ H1 else u D σ H1) : tIfS tt t u D σ H := q
theorem s_asg {g : TG} (q : te σ H fun x H1 => g x σ H1 D.nx) : tAsg te g D σ H := q
theorem s_par {i j : Nat} (q : tr σ H fun vs H1 => ∃ v w, vs = [v, w] ∧ D.nx ((σ.set i (some v)).set j (some w)) H1) : tPar i j tr D σ H := q
theorem s_gname {i : Nat} {N : L2.St → Hp → Prop} (q : N (σ.set i (some v)) H) : gName i v σ H N := q
end

/-! ### comprehensions -/
section
variable {J : It} {n : Nat} {G : Hp → Prop} {Y : Nat → Hp → V → Hp → Prop} {K : PySem.W.Frag} {p : Addr} {Z : List Addr}
theorem Wd.more {D : Addr} {H : Hp} (w : Wd p Z H) (hD : H D ≠ none) : Wd p (D :: Z) H :=
  ⟨w.one, fun b hb => (List.mem_cons.mp hb).elim (fun z => z ▸ hD) (w.occ b), List.mem_cons_of_mem _ w.mem⟩
theorem R.wd {D : Addr} {H H' : Hp} (r : R p H H') (hD : H D ≠ none) (hp : D ≠ p) : H' D = H D := by
  cases e : H D with
  | none => exact absurd e hD
  | some o => exact r.keep D o hp e
/-- a list comprehension: I tells, behind i turns, what data the new list shows. Within a turn the new list stands at D, and no data stands there -/
theorem s_lc (w : Walk J n G Y) (hn : n < sizeLine) {g : TG} {tt : TT} {te : TE} {vs : List Nat} {σ : L2.St} {H1 : Hp} {Q : VK}
    (wd : Wd p Z H1) (I : Nat → List PyData → Prop) (h0 : I 0 []) (hG : ∀ H, R p H1 H → G H)
    (turn : ∀ (D : Addr) i x H H' ds, H1 D = none → D ∉ Z → i < n → I i ds → ds.length ≤ i → R p H1 H → Wd p (D :: Z) H → Y i H x H' →
      ∀ (F : VK) (N : Hp → Prop), (∀ y H4 d, R p H H4 → Dat K (D :: Z) H4 d y → I (i + 1) (ds ++ [d]) → F y H4) →
        (∀ H3, R p H H3 → I (i + 1) ds → N H3) →
      g x (wipe σ vs) H' fun σ2 H2 => wipe σ2 vs = wipe σ vs ∧ tt σ2 H2 fun b H3 => if b = true then te σ2 H3 F else N H3)
    (done : ∀ H' v ds, R p H1 H' → I n ds → ds.length ≤ n → Dat K Z H' (.list ds) v → Q v H') :
    LcG J g tt te vs σ H1 Q := by
  intro D hD
  have nz : D ∉ Z := wd.ne hD
  have np : D ≠ p := fun z => nz (z ▸ wd.mem)
  refine lc_it w (Pv := fun i H => ∃ ds acc, H D = some (.lst acc) ∧ R p H1 H ∧ DatL K (D :: Z) H ds acc ∧ ds.length ≤ i ∧ I i ds) ?_ ?_ ?_ ?_
  · exact ⟨[], [], upd_same, R.new hD, datL_nil, Nat.le_refl _, h0⟩
  · rintro i H _ ⟨ds, acc, e, r, _⟩
    exact hG H r
  · rintro i x H H' hi ⟨ds, acc, e, r, l, le, hI⟩ y
    have wD : Wd p (D :: Z) H := (wd.up r).more (by rw [e]; exact fun w => nomatch w)
    refine turn D i x H H' ds hD nz hi hI le r wD y _ _ (fun y H4 d r4 hd hI' => ?_) (fun H3 r3 hI' => ?_)
    · have e4 : H4 D = some (.lst acc) := r4.keep D _ np e
      have mD : D ∈ D :: Z := List.mem_cons_self
      refine ⟨acc, e4, by rw [l.length]; omega, ds ++ [d], acc ++ [y], upd_same, (r.trans r4).over hD np, ?_, by simp; omega, hI'⟩
      exact DatL.append (DatL.put mD _ _ (l.to wD r4)) (datL_cons (Dat.put mD _ _ hd) datL_nil)
    · exact ⟨ds, acc, r3.keep D _ np e, r.trans r3, l.to wD r3, by omega, hI'⟩
  · rintro H ⟨ds, acc, e, r, l, le, hI⟩
    exact done H _ ds r hI le (dat_lst nz (.inl e) (DatL.less (fun a h => List.mem_cons_of_mem _ h) _ _ l))
end

/-! ### built-ins by name -/
theorem bt_max : bootBuiltins "max" = some (.builtin "max") := by decide +kernel
theorem bt_min : bootBuiltins "min" = some (.builtin "min") := by decide +kernel
theorem bt_abs : bootBuiltins "abs" = some (.builtin "abs") := by decide +kernel
theorem bt_divmod : bootBuiltins "divmod" = some (.builtin "divmod") := by decide +kernel
theorem bt_len : bootBuiltins "len" = some (.builtin "len") := by decide +kernel
theorem bt_isinstance : bootBuiltins "isinstance" = some (.builtin "isinstance") := by decide +kernel
theorem bt_repr : bootBuiltins "repr" = some (.builtin "repr") := by decide +kernel
theorem bt_sum : bootBuiltins "sum" = some (.builtin "sum") := by decide +kernel
theorem bt_all : bootBuiltins "all" = some (.builtin "all") := by decide +kernel
theorem bt_any : bootBuiltins "any" = some (.builtin "any") := by decide +kernel
theorem bt_sorted : bootBuiltins "sorted" = some (.builtin "sorted") := by decide +kernel
theorem bt_int : bootBuiltins "int" = some (.type "int") := by decide +kernel
theorem bt_bool : bootBuiltins "bool" = some (.type "bool") := by decide +kernel
theorem bt_str : bootBuiltins "str" = some (.type "str") := by decide +kernel
theorem bt_list : bootBuiltins "list" = some (.type "list") := by decide +kernel
theorem bt_tuple : bootBuiltins "tuple" = some (.type "tuple") := by decide +kernel
theorem bt_dict : bootBuiltins "dict" = some (.type "dict") := by decide +kernel
/-! ### choices -/
theorem ite_b {b : Bool} {A B : Prop} (h1 : b = true → A) (h0 : b = false → B) : if b = true then A else B := by
  cases b with
  | true => exact iteT (h1 rfl)
  | false => exact iteF (h0 rfl)
theorem ite_d {c A B : Prop} [Decidable c] (h1 : c → A) (h0 : ¬ c → B) : if decide c = true then A else B :=
  ite_b (fun h => h1 (of_decide_eq_true h)) (fun h => h0 (of_decide_eq_false h))
theorem ite_nd {c A B : Prop} [Decidable c] (h1 : ¬ c → A) (h0 : c → B) : if (!decide c) = true then A else B := by
  by_cases h : c
  · rw [decide_eq_true h]; exact iteF (h0 h)
  · rw [decide_eq_false h]; exact iteT (h1 h)
theorem ite_nb {b : Bool} {A B : Prop} (h1 : b = false → A) (h0 : b = true → B) : if (!b) = true then A else B := by
  cases b with
  | true => exact iteF (h0 rfl)
  | false => exact iteT (h1 rfl)

section
variable {X : Cx}
theorem ix_any : IxR X (rIx X.K) := ix_seq
theorem op_modA : OpR X (binaryOp .Mod) (rI (fun _ j => 0 < j) fun i j => .int (i % j)) := op_mod
theorem op_fdivA : OpR X (binaryOp .FloorDiv) (rI CDivW fun i j => .int (i / j)) := op_fdivW
end
/-! ### targets, the pot -/
section
variable {K : PySem.W.Frag} {σ : L2.St} {H : Hp} {N : L2.St → Hp → Prop} {Q : VK} {p : Addr} {x y v : V} {a b : Int} {Z : List Addr}
theorem s_gcons {t : TG} {u : TGs} {r : List V} (q : t v σ H fun σ' H' => u r σ' H' N) : gCons t u (v :: r) σ H N := ⟨v, r, rfl, q⟩
theorem s_gnil (q : N σ H) : gNil [] σ H N := ⟨rfl, q⟩
theorem s_gsub {to ti : TE} {t : TSet} (q : to σ H fun o H1 => ti σ H1 fun i H2 => t o i v H2 fun H3 => N σ H3) : gSub to ti t v σ H N := q
theorem s_gtup {n : Nat} {t : TGs} {xs : List V} (h : SqT K H p xs) (hl : xs.length = n) (q : t xs σ H N) : gTup K n t (.ref p) σ H N := ⟨p, xs, rfl, h, hl, q⟩
theorem s_pot0 (e : H p = some (.lst [x, y])) (q : Q x H) : rIx K (.ref p) (.int 0) H Q := .inl ⟨p, [x, y], 0, x, rfl, rfl, .inl (.inl e), atI_nat (j := 0) rfl, q⟩
theorem s_pot1 (e : H p = some (.lst [x, y])) (q : Q y H) : rIx K (.ref p) (.int 1) H Q := .inl ⟨p, [x, y], 1, y, rfl, rfl, .inl (.inl e), atI_nat (j := 1) rfl, q⟩
theorem s_pset0 {N : Hp → Prop} (e : H p = some (.lst [x, y])) (q : N (upd H p (.lst [v, y]))) : rSetL (.ref p) (.int 0) v H N := ⟨p, [x, y], 0, 0, rfl, rfl, e, rfl, q⟩
theorem s_pset1 {N : Hp → Prop} (e : H p = some (.lst [x, y])) (q : N (upd H p (.lst [x, v]))) : rSetL (.ref p) (.int 1) v H N := ⟨p, [x, y], 1, 1, rfl, rfl, e, rfl, q⟩
/-- the script at an index in its bounds -/
theorem s_script {ns : List Int} {i : Nat} (h : SqL K H p (ns.map V.int)) (hi : i < ns.length) (q : ∀ z, ns[i]? = some z → Q (.int z) H) : rIx K (.ref p) (.int i) H Q := by
  refine .inl ⟨p, _, i, .int ns[i], rfl, rfl, h, atI_nat (j := i) (by rw [List.getElem?_map, List.getElem?_eq_getElem hi]; rfl), q _ (List.getElem?_eq_getElem hi)⟩
end
/-! ### keywords -/
section
variable {K : PySem.W.Frag} {α β : Type}
def pick (perm : List Nat) (xs : List α) : List α := perm.filterMap (xs[·]?)
def kwg (a b : Nat) (perm : List Nat) (us ws : List α) : List α := if us.length = a ∧ ws.length = b then pick perm (us ++ ws) else []
theorem pick_vals {xs : List V} {us : List Value} (r : Vals xs us) : ∀ perm : List Nat, Vals (pick perm xs) (pick perm us)
  | [] => .nil
  | i :: perm => by
    have ih := pick_vals r perm
    unfold pick at ih ⊢
    rw [List.filterMap_cons, List.filterMap_cons]
    cases e : xs[i]? with
    | none => rw [r.none_of e]; exact ih
    | some x =>
      obtain ⟨u, hu, ru⟩ := r.get e
      rw [hu]
      exact .cons ru ih
theorem kb_of {x qual : Str} {st : Stmt} {f : Addr} {fd : FuncData} {ps ks : List Str} {a b : Nat} {perm : List Nat} (F : Fun K x qual st f fd) (h0 : ps ≠ [])
    (h : ∀ (kV doc pm : Value) (an : Option Addr) (cdv ct : Value) (us ws : List Value), us.length = a → ws.length = b →
      bindArgs (PySem.W.fnOf x qual (defArgs st) (defBody st) (defScope st) .none kV doc pm an cdv ct) ⟨us, ks.zip ws⟩ = pure (ps.zip (pick perm (us ++ ws)))) :
    KBinds K fd ps ks (kwg a b perm) (kwg a b perm) := by
  obtain ⟨oc, od, kV, doc, pm, an, cdv, ct, osl, rfl, lk, hcd⟩ := F.ex
  refine ⟨fun s us ws _ hl => ?_, fun {vs us zs ws} r z => ?_⟩
  · by_cases c : us.length = a ∧ ws.length = b
    · unfold kwg
      rw [if_pos c]
      exact .of_eq (h kV doc pm an cdv ct us ws c.1 c.2)
    · unfold kwg at hl
      rw [if_neg c] at hl
      exact absurd (List.length_eq_zero_iff.mp hl.symm) h0
  · unfold kwg
    by_cases c : us.length = a ∧ ws.length = b
    · rw [if_pos c, if_pos ⟨by rw [r.length]; exact c.1, by rw [z.length]; exact c.2⟩]
      exact pick_vals (r.append z) perm
    · rw [if_neg c, if_neg (fun q => c ⟨by rw [← r.length]; exact q.1, by rw [← z.length]; exact q.2⟩)]
      exact .nil
end

theorem cmul_r {i j : Int} (h : -18446744073709551616 < j) (h' : j < 18446744073709551616) : CMul i j := .inr ⟨h, h'⟩
theorem cmul_l {i j : Int} (h : -18446744073709551616 < i) (h' : i < 18446744073709551616) : CMul i j := .inl ⟨h, h'⟩
theorem cdw {i j : Int} (h : 0 < j) (h' : j < 18446744073709551616) : CDivW i j := wide_div h (b := 64) (by omega) (by decide) (by decide)
theorem cpow {i j : Int} (h : 0 ≤ j) (h' : j ≤ 1000000) (h'' : i.natAbs < 18446744073709551616) : CPow i j := ⟨h, h', h''⟩
section
variable {K : PySem.W.Frag} {H : Hp} {Q : VK}
theorem s_max {i j : Int} (q : Q (.int (if j > i then j else i)) H) : (fun (xs : List V) H (Q : VK) => ∃ i j, xs = [.int i, .int j] ∧ Q (.int (if j > i then j else i)) H) [.int i, .int j] H Q := ⟨i, j, rfl, q⟩
end

/-! ### comprehensions of one form -/
section
variable {J : It} {n : Nat} {G : Hp → Prop} {Y : Nat → Hp → V → Hp → Prop} {K : PySem.W.Frag} {p : Addr} {Z : List Addr} {gi : Nat} {te : TE} {vs : List Nat} {σ : L2.St} {H1 : Hp} {Q : VK}
theorem gmono {i : Nat} {x : V} {σ : L2.St} {H : Hp} {F F' : L2.St → Hp → Prop} (h : gName i x σ H F) (m : ∀ σ H, F σ H → F' σ H) : gName i x σ H F' := m _ _ h
theorem s_yes {σ : L2.St} {H : Hp} {QT : Bool → Hp → Prop} (q : QT true H) : tYes σ H QT := q
/-- every turn lays down the datum f i -/
theorem s_lc_map (w : Walk J n G Y) (hn : n < sizeLine) (wd : Wd p Z H1) (f : Nat → PyData) (hG : ∀ H, R p H1 H → G H)
    (turn : ∀ (D : Addr) i x H H', H1 D = none → D ∉ Z → i < n → R p H1 H → Wd p (D :: Z) H → Y i H x H' →
      ∀ F : VK, (∀ y H4, R p H H4 → Dat K (D :: Z) H4 (f i) y → F y H4) →
      gName gi x (wipe σ vs) H' fun σ2 H2 => wipe σ2 vs = wipe σ vs ∧ te σ2 H2 F)
    (done : ∀ H' v, R p H1 H' → Dat K Z H' (.list ((List.range n).map f)) v → Q v H') :
    LcG J (gName gi) tYes te vs σ H1 Q := by
  refine s_lc (K := K) w hn wd (fun i ds => ds = (List.range i).map f) rfl hG ?_ ?_
  · intro D i x H H' ds hD nz hi hI _ r w' y F N hF _
    subst hI
    refine gmono (turn D i x H H' hD nz hi r w' y F fun y H4 r4 hd => hF y H4 _ r4 hd ?_) ?_
    · rw [List.range_succ, List.map_append]; rfl
    · rintro σ2 H2 ⟨e, q⟩
      refine ⟨e, ?_⟩
      show (if true = true then te σ2 H2 F else N H2)
      rw [if_pos rfl]
      exact q
  · intro H' v ds r hI _ hd
    subst hI
    exact done H' v r hd
/-- every turn lays down a datum of which P holds -/
theorem s_lc_any (w : Walk J n G Y) (hn : n < sizeLine) (wd : Wd p Z H1) (P : Nat → PyData → Prop) (hG : ∀ H, R p H1 H → G H)
    (turn : ∀ (D : Addr) i x H H', H1 D = none → D ∉ Z → i < n → R p H1 H → Wd p (D :: Z) H → Y i H x H' →
      ∀ F : VK, (∀ y H4 d, R p H H4 → Dat K (D :: Z) H4 d y → P i d → F y H4) →
      gName gi x (wipe σ vs) H' fun σ2 H2 => wipe σ2 vs = wipe σ vs ∧ te σ2 H2 F)
    (done : ∀ H' v ds, R p H1 H' → ds.length = n → (∀ i d, ds[i]? = some d → P i d) → Dat K Z H' (.list ds) v → Q v H') :
    LcG J (gName gi) tYes te vs σ H1 Q := by
  refine s_lc (K := K) w hn wd (fun i ds => ds.length = i ∧ ∀ i d, ds[i]? = some d → P i d) ⟨rfl, fun i d e => by simp at e⟩ hG ?_ ?_
  · intro D i x H H' ds hD nz hi hI _ r w' y F N hF _
    obtain ⟨hl, hI⟩ := hI
    refine gmono (turn D i x H H' hD nz hi r w' y F fun y H4 d r4 hd hp => hF y H4 d r4 hd ⟨by simp [hl], fun j e hj => ?_⟩) ?_
    · rw [List.getElem?_append] at hj
      split at hj
      · exact hI j e hj
      · rename_i hlt
        have ej : j = i := by
          have : j - ds.length < 1 := by
            by_cases z : j - ds.length < 1
            · exact z
            · rw [List.getElem?_eq_none (by simp; omega)] at hj; cases hj
          omega
        subst ej
        rw [hl, Nat.sub_self] at hj
        simp at hj
        subst hj
        exact hp
    · rintro σ2 H2 ⟨e, q⟩
      refine ⟨e, ?_⟩
      show (if true = true then te σ2 H2 F else N H2)
      rw [if_pos rfl]
      exact q
  · intro H' v ds r hI _ hd
    exact done H' v ds r hI.1 hI.2 hd
end
section
variable {K : PySem.W.Frag} {p : Addr} {Z : List Addr} {H : Hp} {Q : VK} {x : V} {d : PyData}
theorem s_all {bs : List Bool} (h : Dat K Z H (.list (bs.map .bool)) x) (q : Q (.bl (bs.all id)) H) : rAll K [x] H Q := by
  obtain ⟨a, xs, rfl, _, ha, l⟩ := h.lst
  rw [l.bls] at ha
  exact ⟨a, bs, rfl, .inl ha, q⟩
theorem s_any {bs : List Bool} (h : Dat K Z H (.list (bs.map .bool)) x) (q : Q (.bl (bs.any id)) H) : rAny K [x] H Q := by
  obtain ⟨a, xs, rfl, _, ha, l⟩ := h.lst
  rw [l.bls] at ha
  exact ⟨a, bs, rfl, .inl ha, q⟩
theorem isD_str (h : isD d "str" = true) : ∃ z, d = .str z := by cases d <;> simp [isD, tyD] at h <;> exact ⟨_, rfl⟩
theorem isD_tup (h : isD d "tuple" = true) : ∃ z, d = .tuple z := by cases d <;> simp [isD, tyD] at h <;> exact ⟨_, rfl⟩
theorem isD_lst (h : isD d "list" = true) : ∃ z, d = .list z := by cases d <;> simp [isD, tyD] at h <;> exact ⟨_, rfl⟩
theorem Dat.str {z : Str} (h : Dat K Z H (.str z) x) : x = .str z := by simpa only [Dat] using h
theorem Dat.int {z : Int} (h : Dat K Z H (.int z) x) : x = .int z := by simpa only [Dat] using h
theorem Dat.bool {z : Bool} (h : Dat K Z H (.bool z) x) : x = .bl z := by simpa only [Dat] using h
theorem Tame.strlen {z : Str} {k n : Nat} (t : Tame (.str z) k n) : z.length ≤ n := by
  have := t.bulk
  simp only [PyData.bulk] at this
  exact this
end
theorem map_getD {α β : Type} (l : List α) (a : α) (f : α → β) : (List.range l.length).map (fun i => f (l.getD i a)) = l.map f := by
  apply List.ext_getElem?
  intro i
  by_cases h : i < l.length
  · simp [h]
  · simp [h]
theorem sl_of {n : Nat} (h : n ≤ 50000) : n ≤ sizeLine := by rw [sizeLine_eq]; omega
theorem sl_lt {n : Nat} (h : n ≤ 50000) : n < sizeLine := by rw [sizeLine_eq]; omega

/-! ### the rules with the written part named (within a comprehension the context is another, the written part is not) -/
section
variable {X : Cx} {K : PySem.W.Frag} {k : Nat}
theorem kx_add (h : X.K = K) : OpR X (binaryOp .Add) (rAdd K) := by subst h; exact op_addA
theorem kx_ix (h : X.K = K) : IxR X (rIx K) := by subst h; exact ix_any
theorem kx_sl (h : X.K = K) : SlR X (rSl K) := by subst h; exact sl_any
theorem kx_len (h : X.K = K) : CallR X (.builtin "len") (rLen K) := by subst h; exact call_lenA
theorem kx_list (h : X.K = K) : CallR X (.type "list") (rList K) := by subst h; exact call_listA
theorem kx_tuple (h : X.K = K) : CallR X (.type "tuple") (rTuple K) := by subst h; exact call_tupleA
theorem kx_eq (h : X.K = K) (hr : Room k X.A) : OpR X (compareOp .Eq) (rEqA K) := by subst h; exact op_eqA hr
theorem kx_ne (h : X.K = K) (hr : Room k X.A) : OpR X (compareOp .NotEq) (rNeA K) := by subst h; exact op_neA hr
theorem kx_in (h : X.K = K) : OpR X (compareOp .In) (rInA K) := by subst h; exact op_inA
theorem kx_notIn (h : X.K = K) : OpR X (compareOp .NotIn) (rNotInA K) := by subst h; exact op_notInA
theorem kx_repr (h : X.K = K) (hg : X.A.guards = some []) (hr : Room k X.A) : CallR X (.builtin "repr") (rRepr K) := by subst h; exact call_repr hg hr
theorem kx_isi (h : X.K = K) : CallR X (.builtin "isinstance") (rIsi K) := by subst h; exact call_isi
theorem kx_isiT (h : X.K = K) : CallR X (.builtin "isinstance") (rIsiT K) := by subst h; exact call_isiT
theorem kx_all (h : X.K = K) (hc : X.calm = true) : CallR X (.builtin "all") (rAll K) := by subst h; exact cr_all hc
theorem kx_any (h : X.K = K) (hc : X.calm = true) : CallR X (.builtin "any") (rAny K) := by subst h; exact cr_any hc
theorem kx_sum (h : X.K = K) (hc : X.calm = true) : CallR X (.builtin "sum") (rSum K) := by subst h; exact cr_sum hc
theorem kx_max (h : X.K = K) (hc : X.calm = true) : CallR X (.builtin "max") (rMax K) := by subst h; exact cr_max hc
theorem kx_min (h : X.K = K) (hc : X.calm = true) : CallR X (.builtin "min") (rMin K) := by subst h; exact cr_min hc
end

theorem ite_nf {A B : Prop} (h : A) : if (!false) = true then A else B := iteT h
theorem ite_nt {A B : Prop} (h : B) : if (!true) = true then A else B := iteF h
section
variable {σ : L2.St} {H : Hp} {Q : VK} {D : Ends} {g : TG} {tt : TT} {te : TE} {ta : TA} {vs : List Nat} {K : PySem.W.Frag} {RI : It → Hp → Prop} {tb : TS} {wi : TI}
theorem s_tlc (q : wi σ H fun J H1 => LcG J g tt te vs σ H1 Q) : tLc wi g tt te vs σ H Q := q
theorem s_iStr (q : te σ H fun v H1 => ∃ x, v = .str x ∧ RI (Its x) H1) : iStr te σ H RI := q
theorem s_iList (q : te σ H fun x H1 => ∃ a, x = .ref a ∧ (∃ xs, SqL K H1 a xs) ∧ RI (Itl K a) H1) : iList K te σ H RI := q
theorem s_iTup (q : te σ H fun x H1 => ∃ a, x = .ref a ∧ (∃ xs, SqT K H1 a xs) ∧ RI (Itt K a) H1) : iTup K te σ H RI := q
theorem s_iRng1 (q : ta σ H fun vs H1 => ∃ j : Int, vs = [.int j] ∧ -(2 ^ 62) ≤ j ∧ j < 2 ^ 62 ∧ RI (Itr 0 j.toNat) H1) : iRng1 ta σ H RI := q
theorem s_iRng2 (q : ta σ H fun vs H1 => ∃ i j : Int, vs = [.int i, .int j] ∧ (-(2 ^ 62) ≤ i ∧ i < 2 ^ 62 ∧ -(2 ^ 62) ≤ j ∧ j < 2 ^ 62) ∧ RI (Itr i (j - i).toNat) H1) : iRng2 ta σ H RI := q
theorem s_for (q : wi σ H fun J H1 => ForG J g tb D σ H1) : tFor wi g tb D σ H := q
/-- a for, by an invariant over the turn, the slots, the heap -/
theorem s_forI {J : It} {n : Nat} {G : Hp → Prop} {Y : Nat → Hp → V → Hp → Prop} (w : Walk J n G Y) (Pv : Nat → L2.St → Hp → Prop) (h0 : Pv 0 σ H) (hG : ∀ i σ H, i ≤ n → Pv i σ H → G H)
    (hs : ∀ i x σ H H', i < n → Pv i σ H → Y i H x H' → g x σ H' fun σ2 H2 => tb { D with nx := Pv (i + 1), ct := Pv (i + 1), bk := D.nx } σ2 H2)
    (hd : ∀ σ H, Pv n σ H → D.nx σ H) : ForG J g tb D σ H := for_it w Pv h0 hG hs hd
section
variable {p : Addr} {Z : List Addr} {ds : List PyData} {xs : List V}
theorem s_newl (K : PySem.W.Frag) (w : Wd p Z H) (l : DatL K Z H ds xs) (hl : ds.length ≤ 50000) (q : ∀ H' v, R p H H' → Dat K Z H' (.list ds) v → Q v H') : NewL xs H Q :=
  ⟨by rw [l.length]; exact sl_of hl, s_new_lst w l q⟩
theorem s_newt (K : PySem.W.Frag) (w : Wd p Z H) (l : DatL K Z H ds xs) (hl : ds.length ≤ 50000) (q : ∀ H' v, R p H H' → Dat K Z H' (.tuple ds) v → Q v H') : NewT xs H Q :=
  ⟨by rw [l.length]; exact sl_of hl, s_new_tup w l q⟩
end
end

/-! ### picks, dicts, joined texts -/
section
variable {K : PySem.W.Frag} {p : Addr} {Z : List Addr} {H : Hp} {Q : VK} {x : V} {d : PyData} {ds : List PyData} {σ : L2.St}
/-- an item of a list of data, at a place in its bounds -/
theorem s_pick {i : Int} (hx : Dat K Z H (.list ds) x) (h0 : 0 ≤ i) (h1 : i < ds.length) (q : ∀ v d, d ∈ ds → Dat K Z H d v → Q v H) : rIx K x (.int i) H Q :=
  s_ix_lst hx h0 h1 fun v d e h => q v d (List.mem_of_getElem? e) h
theorem s_dnew (w : Wd p Z H) (q : ∀ H' v, R p H H' → Dat K Z H' (.dict []) v → Q v H') : tDNewK σ H Q := fun a ha =>
  q _ _ (R.new ha) (by simp only [Dat, DatK]; exact ⟨a, [], rfl, w.ne ha, upd_same, rfl⟩)
theorem s_disp1 (w : Wd p Z H) (k : Key) {v : V} (hd : ∀ H', Dat K Z H' d v) (q : ∀ H' x, R p H H' → Dat K Z H' (.dict [(keyD k, d)]) x → Q x H') :
    tDisp [(tC (kV k), tC v)] σ H Q := by
  intro a ha
  show _ ∧ _
  refine ⟨upd_same, [(k, v)], rfl, by simp, ?_⟩
  rw [upd_upd, show mergeK [] [(k, v)] = [(k, v)] from rfl]
  refine q _ _ (R.new ha) ?_
  simp only [Dat, DatK]
  exact ⟨a, [(k, v)], rfl, w.ne ha, upd_same, k, v, [], rfl, rfl, hd _, rfl⟩
theorem s_m1 {r : V → List V → Hp → VK → Prop} {to te : TE} (q : to σ H fun x H1 => (∃ a, x = .str a) ∧ te σ H1 fun y H2 => r x [y] H2 Q) : tM1 r to te σ H Q := q
def rJoin (K : PySem.W.Frag) : V → List V → Hp → VK → Prop := fun x xs H Q => ∃ a p, ∃ ys : List Str, x = .str a ∧ xs = [.ref p] ∧
  (SqL K H p (ys.map V.str) ∨ SqT K H p (ys.map V.str)) ∧ (ys.map (·.length)).sum + ys.length * a.length ≤ 16777216 ∧ Q (.str (Txt.join a ys)) H
theorem pe_joinK {X : Cx} {o e : Expr} {to te : TE} {apos pos : Pos} (hK : X.K = K) (ho : PE X o to) (he : PE X e te) (hs : starEach [e] X.env = [(false, eval e X.env)] := by rfl)
    (hbase : attributeBase o "join" X.env (eval o X.env) = eval o X.env := by rfl) (hline : (apos.endLine == pos.line) = true := by rfl) :
    PE X (.Call (.Attribute o "join" apos) [e] [] pos) (tM1 (rJoin K) to te) := by
  subst hK
  exact pe_join ho he hs hbase hline
theorem s_join {a : Str} {ys : List Str} (hx : Dat K Z H (.list (ys.map .str)) x) (hl : (ys.map (·.length)).sum + ys.length * a.length ≤ 16777216) (q : Q (.str (Txt.join a ys)) H) :
    rJoin K (.str a) [x] H Q := by
  obtain ⟨b, xs, rfl, _, hb, l⟩ := hx.lst
  rw [l.strs] at hb
  exact ⟨a, b, ys, rfl, rfl, .inl (.inl hb), hl, q⟩
end
/-! ### texts -/
theorem cps_app (a b : Str) : (a ++ b).cps.toList = a.cps.toList ++ b.cps.toList := by
  show (a.cps ++ b.cps).toList = _
  simp
theorem ok_iff {x : Str} : PyData.strOk x = true ↔ ∀ c ∈ x.cps.toList, c < 1114112 := by
  unfold PyData.strOk
  rw [← Array.all_toList, List.all_eq_true]
  constructor
  · intro h c hc; exact of_decide_eq_true (h c hc)
  · intro h c hc; exact decide_eq_true (h c hc)
theorem ok_app {a b : Str} (h : PyData.strOk a = true) (g : PyData.strOk b = true) : PyData.strOk (a ++ b) = true := by
  rw [ok_iff] at *
  intro c hc
  rw [cps_app] at hc
  exact (List.mem_append.mp hc).elim (h c) (g c)
theorem len_app (a b : Str) : (a ++ b).length = a.length + b.length := by
  show (a.cps ++ b.cps).size = _
  simp [Str.length]
theorem ok_cut {z : Str} {lo hi : Option Int} (h : PyData.strOk z = true) : PyData.strOk (cutS z lo hi) = true := by
  rw [ok_iff] at *
  intro c hc
  have hc' : c ∈ (z.cps.toList.drop (HT.sIx z.length 0 lo)).take (HT.sIx z.length z.length hi - HT.sIx z.length 0 lo) := by
    simpa [cutS] using hc
  exact h c (List.mem_of_mem_drop (List.mem_of_mem_take hc'))
theorem len_cut {z : Str} {lo hi : Option Int} : (cutS z lo hi).length = HT.sIx z.length z.length hi - HT.sIx z.length 0 lo := by
  have h2 := HT.sIx_le z.length z.length (Nat.le_refl _) hi
  have e : z.cps.toList.length = z.length := by simp [Str.length]
  unfold cutS Str.length
  simp only [List.size_toArray, List.length_take, List.length_drop]
  simp only [Str.length] at e h2 ⊢
  omega
theorem ok_one {c : Nat} (h : c < 1114112) : PyData.strOk ⟨#[c]⟩ = true := by rw [ok_iff]; simp; exact h
theorem ok_join : ∀ (ys : List Str), (∀ y ∈ ys, PyData.strOk y = true) → PyData.strOk (Txt.join "" ys) = true := by
  intro ys h
  rw [TL.join_eq]
  induction ys with
  | nil => decide +kernel
  | cons y r ih =>
    cases r with
    | nil => exact h y (by simp)
    | cons u r => exact ok_app (ok_app (h y (by simp)) (by decide +kernel)) (ih fun z hz => h z (List.mem_cons_of_mem _ hz))
theorem len_join : ∀ (ys : List Str), (Txt.join "" ys).length = (ys.map (·.length)).sum := by
  intro ys
  rw [TL.join_eq]
  induction ys with
  | nil => rfl
  | cons y r ih =>
    cases r with
    | nil => simp [Str.join]
    | cons u r =>
      show (y ++ ("" : Str) ++ Str.join "" (u :: r)).length = _
      rw [len_app, len_app, ih]
      simp
      rfl
theorem strs_of {ds : List PyData} {P : Str → Prop} : (∀ d ∈ ds, ∃ z, d = .str z ∧ P z) → ∃ ys : List Str, ds = ys.map .str ∧ ∀ y ∈ ys, P y := by
  induction ds with
  | nil => intro _; exact ⟨[], rfl, by simp⟩
  | cons d r ih =>
    intro h
    obtain ⟨z, e, hz⟩ := h d (by simp)
    obtain ⟨ys, e2, h2⟩ := ih fun x hx => h x (List.mem_cons_of_mem _ hx)
    exact ⟨z :: ys, by rw [e, e2]; rfl, by simp; exact ⟨hz, h2⟩⟩
theorem ints_of {ds : List PyData} {P : Int → Prop} : (∀ d ∈ ds, ∃ z, d = .int z ∧ P z) → ∃ ys : List Int, ds = ys.map .int ∧ ∀ y ∈ ys, P y := by
  induction ds with
  | nil => intro _; exact ⟨[], rfl, by simp⟩
  | cons d r ih =>
    intro h
    obtain ⟨z, e, hz⟩ := h d (by simp)
    obtain ⟨ys, e2, h2⟩ := ih fun x hx => h x (List.mem_cons_of_mem _ hx)
    exact ⟨z :: ys, by rw [e, e2]; rfl, by simp; exact ⟨hz, h2⟩⟩
theorem sum_ones : ∀ ys : List Str, (∀ y ∈ ys, y.length = 1) → (ys.map (·.length)).sum = ys.length
  | [], _ => rfl
  | y :: r, h => by
    rw [List.map_cons, List.sum_cons, h y (by simp), sum_ones r fun z hz => h z (List.mem_cons_of_mem _ hz), List.length_cons]; omega

/-! ### what repr writes is made of code points -/
theorem char_lt (c : Char) : c.toNat < 1114112 := by
  have h := c.valid
  show c.val.toNat < 1114112
  rcases h with h | ⟨_, h⟩
  · have : c.val.toNat < 0xd800 := h
    omega
  · exact h
theorem ok_ofString (s : String) : PyData.strOk (Str.ofString s) = true := by
  rw [ok_iff, signs_ofString]
  intro c hc
  obtain ⟨ch, _, rfl⟩ := List.mem_map.mp hc
  exact char_lt ch
theorem reprChar_lt {q c x : Nat} (hq : c < 1114112) (h : x ∈ Builtin.Str.reprChar q c) : x < 1114112 := by
  have hx : ∀ w : Nat, x ∈ List.replicate (w - ((Nat.toDigits 16 c).map Char.toNat).length) 48 ++ (Nat.toDigits 16 c).map Char.toNat → x < 1114112 := by
    intro w h
    rcases List.mem_append.mp h with h | h
    · rw [List.eq_of_mem_replicate h]; decide
    · obtain ⟨ch, _, rfl⟩ := List.mem_map.mp h
      exact char_lt ch
  unfold Builtin.Str.reprChar at h
  simp only at h
  repeat' split at h
  all_goals first
    | (simp only [List.mem_cons, List.not_mem_nil, or_false] at h; omega)
    | (rcases List.mem_append.mp h with h | h
       · simp only [List.mem_cons, List.not_mem_nil, or_false] at h; omega
       · exact hx _ h)
theorem mem_fold (f : Nat → List Nat) (x : Nat) : ∀ (l : List Nat) (acc : Array Nat), x ∈ (l.foldl (fun out c => out ++ (f c).toArray) acc).toList → x ∈ acc.toList ∨ ∃ c ∈ l, x ∈ f c
  | [], acc, h => .inl h
  | c :: l, acc, h => by
    rcases mem_fold f x l _ h with h | ⟨d, hd, h⟩
    · have h' : x ∈ acc.toList ++ f c := by simpa using h
      rcases List.mem_append.mp h' with h | h
      · exact .inl h
      · exact .inr ⟨c, by simp, h⟩
    · exact .inr ⟨d, List.mem_cons_of_mem _ hd, h⟩
theorem quote_lt (x : Str) : reprQuote x < 1114112 := by
  unfold reprQuote
  split <;> decide
theorem ok_reprText {x : Str} (h : PyData.strOk x = true) : PyData.strOk (reprText x) = true := by
  rw [ok_iff] at *
  intro c hc
  unfold reprText at hc
  rw [Array.toList_push] at hc
  rcases List.mem_append.mp hc with hc | hc
  · rw [← Array.foldl_toList] at hc
    rcases mem_fold (Builtin.Str.reprChar (reprQuote x)) c _ _ hc with hc | ⟨d, hd, hc⟩
    · have : c = reprQuote x := by simpa using hc
      rw [this]; exact quote_lt x
    · exact reprChar_lt (h d hd) hc
  · rw [List.mem_singleton.mp hc]; exact quote_lt x
theorem ok_sjoin (sep : Str) (hs : PyData.strOk sep = true) (ts : List Str) (h : ∀ t ∈ ts, PyData.strOk t = true) : PyData.strOk (Str.join sep ts) = true := by
  rw [ok_iff]
  intro c hc
  rcases (mem_join sep c ts).mp hc with ⟨t, ht, hc⟩ | ⟨_, hc⟩
  · exact ok_iff.mp (h t ht) c hc
  · exact ok_iff.mp hs c hc
theorem ok_textFrom : ∀ (ts : List Str) (k : Nat) (acc : Str), PyData.strOk acc = true → (∀ t ∈ ts, PyData.strOk t = true) → PyData.strOk (textFrom k acc ts) = true
  | [], k, acc, h, _ => h
  | t :: r, k, acc, h, g => by
    show PyData.strOk (textFrom (k + 1) _ r) = true
    exact ok_textFrom r (k + 1) _ (ok_app (ok_app h (ok_ofString _)) (g t (by simp))) fun u hu => g u (List.mem_cons_of_mem _ hu)
mutual
theorem ok_shown : ∀ d : PyData, lay d = true → PyData.strOk d.shown = true
  | .none, _ => ok_ofString _
  | .bool b, _ => by cases b <;> exact ok_ofString _
  | .int i, _ => ok_ofString _
  | .str x, h => by
    simp only [PyData.shown]
    exact ok_reprText (by simpa only [lay] using h)
  | .list xs, h => by
    simp only [PyData.shown]
    exact ok_app (ok_textFrom _ _ _ (ok_ofString _) (ok_shownAll xs (by simpa only [lay] using h))) (ok_ofString _)
  | .tuple xs, h => by
    simp only [PyData.shown]
    exact ok_app (ok_app (ok_ofString _) (ok_sjoin _ (ok_ofString _) _ (ok_shownAll xs (by simpa only [lay] using h)))) (ok_ofString _)
  | .dict kvs, h => by
    simp only [PyData.shown]
    exact ok_app (ok_app (ok_ofString _) (ok_sjoin _ (ok_ofString _) _ (ok_shownKv kvs (by simpa only [lay] using h)))) (ok_ofString _)
theorem ok_shownAll : ∀ xs : List PyData, layL xs = true → ∀ t ∈ PyData.shownAll xs, PyData.strOk t = true
  | [], _, t, ht => by simp [PyData.shownAll] at ht
  | x :: xs, h, t, ht => by
    simp only [layL, Bool.and_eq_true] at h
    simp only [PyData.shownAll, List.mem_cons] at ht
    rcases ht with rfl | ht
    · exact ok_shown x h.1
    · exact ok_shownAll xs h.2 t ht
theorem ok_shownKv : ∀ xs : List (PyData × PyData), layK xs = true → ∀ t ∈ PyData.shownKv xs, PyData.strOk t = true
  | [], _, t, ht => by simp [PyData.shownKv] at ht
  | (k, v) :: xs, h, t, ht => by
    simp only [layK, Bool.and_eq_true] at h
    simp only [PyData.shownKv, List.mem_cons] at ht
    rcases ht with rfl | ht
    · exact ok_app (ok_app (ok_shown k h.1.1) (ok_ofString _)) (ok_shown v h.1.2)
    · exact ok_shownKv xs h.2 t ht
end
/-- the text of data, as data -/
theorem Tame.text {d : PyData} {k n : Nat} (t : Tame d k n) : Tame (.str d.shown) 1 (302 * n + 300) := by
  have := PyData.shown_le_bulk 300 (by decide) d t.short
  have := t.bulk
  exact tame_str (by omega) (ok_shown d t.lay)
theorem walk_r0 {n : Nat} : Walk (Itr 0 n) n (fun _ => True) (fun i H x H' => H' = H ∧ x = .int (i : Nat)) :=
  walk_range.mono (fun _ _ => trivial) fun i H x H' _ _ y => ⟨y.1, by rw [y.2]; show V.int (0 + (i : Int)) = _; rw [Int.zero_add]⟩
end PC

set_option Elab.async false
set_option linter.all false
set_option maxRecDepth 100000
set_option maxHeartbeats 4000000
namespace PX
open PySem PySem.Spec PyProof.Rows L2 PC
local macro_rules | `(tactic| wtm_at "v1") => `(tactic| with_reducible first
  | refine s_seq ?_ | refine s_asg ?_ | refine s_gname ?_ | refine s_ifS ?_ | refine s_ret ?_ | refine s_drop ?_ | refine s_next ?_ | refine s_par ?_
  | refine s_c ?_ | refine s_op ?_ | refine s_un ?_ | refine s_nil ?_ | refine s_cons ?_ | refine s_cb ?_ | refine s_ck ?_
  | refine s_if ?_ | refine s_andV ?_ | refine s_orV ?_ | refine s_notV ?_ | refine s_chain ?_ | refine s_lst ?_ | refine s_tup ?_
  | refine s_slice ?_ | refine s_part ?_ | refine s_noPart ?_ | refine s_test ?_ | refine s_tB ?_ | refine s_not ?_ | refine s_and ?_ | refine s_or ?_ | refine s_retN ?_
  | refine s_rI0 ?_ | refine s_rU ?_ | refine s_add_int ?_ | refine s_eq_int ?_ | refine s_ne_int ?_ | refine s_eq_str ?_ | refine s_ne_str ?_
  | refine s_gcons ?_ | refine s_gnil ?_ | refine s_gsub ?_
  | refine s_yes ?_ | refine s_in_c ?_ | refine s_notIn_c ?_
  | refine s_tlc ?_ | refine s_iStr ?_ | refine s_iList ?_ | refine s_iTup ?_ | refine s_iRng1 ?_ | refine s_iRng2 ?_ | refine s_for ?_
  | refine iteT ?_ | refine iteF ?_ | refine ite_nf ?_ | refine ite_nt ?_)
/-! a side condition of an operation -/
local macro_rules | `(tactic| wtm_at "sc") => `(tactic| first
  | (show (0 : Int) < _; first | decide | omega)
  | exact cmul_r (by decide) (by decide) | exact cmul_l (by decide) (by decide) | exact cmul_r (by omega) (by omega) | exact cmul_l (by omega) (by omega)
  | exact cpow (by decide) (by decide) (by decide) | exact cdw (by decide) (by decide) | exact cdw (by omega) (by omega))
local macro_rules | `(tactic| wtm_at "v2") => `(tactic| first
  | wtm_at "v1"
  | (with_reducible refine s_var (by with_unfolding_all rfl) ?_)
  | (with_reducible refine s_rI (by with_unfolding_all wtm_at "sc") ?_)
  | (with_reducible refine ⟨_, rfl, ?_⟩)
  | (with_reducible refine ⟨_, _, rfl, ?_⟩))
local macro_rules | `(tactic| wtm_at "v") => `(tactic| repeat wtm_at "v2")
/-! the world, the store of draws, a datum, behind the steps that were made -/
local macro_rules | `(tactic| wtm_at "r") => `(tactic| first
  | exact R.refl _ _
  | assumption
  | exact R.of_same (by assumption)
  | (refine R.trans ?_ (by assumption); wtm_at "r")
  | (refine R.trans ?_ (R.of_same (by assumption)); wtm_at "r"))

/-! ### the text -/
def topS (i : Nat) : Stmt := PySem.Challenge.pw_paritycells_k31_names_times_stamps.main.body.getD i (.Pass ⟨0, 0, 0, 0⟩)
abbrev st_is_name : Stmt := topS 4
abbrev N_is_name : List Str := ["thing", "sign"]
theorem sc_is_name : FnScope N_is_name ["thing"] (defScope st_is_name) :=
  ⟨rfl, rfl, rfl, by decide +kernel, rfl, by decide +kernel, by decide +kernel⟩
abbrev st_is_time : Stmt := topS 5
abbrev N_is_time : List Str := ["thing"]
theorem sc_is_time : FnScope N_is_time ["thing"] (defScope st_is_time) :=
  ⟨rfl, rfl, rfl, by decide +kernel, rfl, by decide +kernel, by decide +kernel⟩
abbrev st_is_stamp : Stmt := topS 6
abbrev N_is_stamp : List Str := ["thing"]
theorem sc_is_stamp : FnScope N_is_stamp ["thing"] (defScope st_is_stamp) :=
  ⟨rfl, rfl, rfl, by decide +kernel, rfl, by decide +kernel, by decide +kernel⟩
abbrev st__law_pot : Stmt := topS 8
abbrev N__law_pot : List Str := ["_law_script", "_law_k", "_law_number"]
theorem sc__law_pot : FnScope N__law_pot ["_law_script", "_law_k"] (defScope st__law_pot) :=
  ⟨rfl, rfl, rfl, by decide +kernel, rfl, by decide +kernel, by decide +kernel⟩
abbrev st__law_draw : Stmt := topS 9
abbrev N__law_draw : List Str := ["_law_pot_here", "_law_many", "_law_digit"]
theorem sc__law_draw : FnScope N__law_draw ["_law_pot_here", "_law_many"] (defScope st__law_draw) :=
  ⟨rfl, rfl, rfl, by decide +kernel, rfl, by decide +kernel, by decide +kernel⟩
abbrev st__law_moment : Stmt := topS 10
abbrev N__law_moment : List Str := ["_law_pot_here", "_law_far"]
theorem sc__law_moment : FnScope N__law_moment ["_law_pot_here"] (defScope st__law_moment) :=
  ⟨rfl, rfl, rfl, by decide +kernel, rfl, by decide +kernel, by decide +kernel⟩
abbrev st__law_mark : Stmt := topS 11
abbrev N__law_mark : List Str := ["_law_pot_here", "_law_letters", "_law_word_here", "_law_k", "_law_palm", "_law_far"]
theorem sc__law_mark : FnScope N__law_mark ["_law_pot_here"] (defScope st__law_mark) :=
  ⟨rfl, rfl, rfl, by decide +kernel, rfl, by decide +kernel, by decide +kernel⟩
abbrev st__law_word : Stmt := topS 12
abbrev N__law_word : List Str := ["_law_pot_here", "_law_letters", "_law_word_here", "_law_k", "_law_at", "_law_sign"]
theorem sc__law_word : FnScope N__law_word ["_law_pot_here"] (defScope st__law_word) :=
  ⟨rfl, rfl, rfl, by decide +kernel, rfl, by decide +kernel, by decide +kernel⟩
abbrev st__law_odd : Stmt := topS 13
abbrev N__law_odd : List Str := ["_law_pot_here", "_law_far", "_law_some"]
theorem sc__law_odd : FnScope N__law_odd ["_law_pot_here"] (defScope st__law_odd) :=
  ⟨rfl, rfl, rfl, by decide +kernel, rfl, by decide +kernel, by decide +kernel⟩
abbrev st__law_is_word : Stmt := topS 14
abbrev N__law_is_word : List Str := ["_law_piece", "_law_sign"]
theorem sc__law_is_word : FnScope N__law_is_word ["_law_piece"] (defScope st__law_is_word) :=
  ⟨rfl, rfl, rfl, by decide +kernel, rfl, by decide +kernel, by decide +kernel⟩
abbrev st__law_is_moment : Stmt := topS 15
abbrev N__law_is_moment : List Str := ["_law_piece"]
theorem sc__law_is_moment : FnScope N__law_is_moment ["_law_piece"] (defScope st__law_is_moment) :=
  ⟨rfl, rfl, rfl, by decide +kernel, rfl, by decide +kernel, by decide +kernel⟩
abbrev st__law_is_mark : Stmt := topS 16
abbrev N__law_is_mark : List Str := ["_law_piece"]
theorem sc__law_is_mark : FnScope N__law_is_mark ["_law_piece"] (defScope st__law_is_mark) :=
  ⟨rfl, rfl, rfl, by decide +kernel, rfl, by decide +kernel, by decide +kernel⟩
abbrev st__law_bent : Stmt := topS 17
abbrev N__law_bent : List Str := ["_law_pot_here", "_law_mark_here", "_law_way", "_law_at"]
theorem sc__law_bent : FnScope N__law_bent ["_law_pot_here", "_law_mark_here"] (defScope st__law_bent) :=
  ⟨rfl, rfl, rfl, by decide +kernel, rfl, by decide +kernel, by decide +kernel⟩
abbrev st__law_right : Stmt := topS 18
abbrev N__law_right : List Str := ["_law_piece", "_law_kept", "_law_due", "_law_turn"]
theorem sc__law_right : FnScope N__law_right ["_law_piece"] (defScope st__law_right) :=
  ⟨rfl, rfl, rfl, by decide +kernel, rfl, by decide +kernel, by decide +kernel⟩
abbrev st_law : Stmt := topS 19
abbrev N_law : List Str := ["_law_script", "_law_k", "_law_pot_here", "_law_turn", "_law_mark_here", "_law_some", "_law_piece"]
theorem sc_law : FnScope N_law ["_law_script"] (defScope st_law) :=
  ⟨rfl, rfl, rfl, by decide +kernel, rfl, by decide +kernel, by decide +kernel⟩
/-- where the text's defs stand; what is still the built-in -/
structure Tx (K : PySem.W.Frag) (mg : Str → Option Value) where
  a_is_name : Addr
  fd_is_name : FuncData
  F_is_name : Fun K "is_name" "is_name" st_is_name a_is_name fd_is_name
  g_is_name : mg "is_name" = some (.ref a_is_name)
  a_is_time : Addr
  fd_is_time : FuncData
  F_is_time : Fun K "is_time" "is_time" st_is_time a_is_time fd_is_time
  g_is_time : mg "is_time" = some (.ref a_is_time)
  a_is_stamp : Addr
  fd_is_stamp : FuncData
  F_is_stamp : Fun K "is_stamp" "is_stamp" st_is_stamp a_is_stamp fd_is_stamp
  g_is_stamp : mg "is_stamp" = some (.ref a_is_stamp)
  a__law_pot : Addr
  fd__law_pot : FuncData
  F__law_pot : Fun K "_law_pot" "_law_pot" st__law_pot a__law_pot fd__law_pot
  g__law_pot : mg "_law_pot" = some (.ref a__law_pot)
  a__law_draw : Addr
  fd__law_draw : FuncData
  F__law_draw : Fun K "_law_draw" "_law_draw" st__law_draw a__law_draw fd__law_draw
  g__law_draw : mg "_law_draw" = some (.ref a__law_draw)
  a__law_moment : Addr
  fd__law_moment : FuncData
  F__law_moment : Fun K "_law_moment" "_law_moment" st__law_moment a__law_moment fd__law_moment
  g__law_moment : mg "_law_moment" = some (.ref a__law_moment)
  a__law_mark : Addr
  fd__law_mark : FuncData
  F__law_mark : Fun K "_law_mark" "_law_mark" st__law_mark a__law_mark fd__law_mark
  g__law_mark : mg "_law_mark" = some (.ref a__law_mark)
  a__law_word : Addr
  fd__law_word : FuncData
  F__law_word : Fun K "_law_word" "_law_word" st__law_word a__law_word fd__law_word
  g__law_word : mg "_law_word" = some (.ref a__law_word)
  a__law_odd : Addr
  fd__law_odd : FuncData
  F__law_odd : Fun K "_law_odd" "_law_odd" st__law_odd a__law_odd fd__law_odd
  g__law_odd : mg "_law_odd" = some (.ref a__law_odd)
  a__law_is_word : Addr
  fd__law_is_word : FuncData
  F__law_is_word : Fun K "_law_is_word" "_law_is_word" st__law_is_word a__law_is_word fd__law_is_word
  g__law_is_word : mg "_law_is_word" = some (.ref a__law_is_word)
  a__law_is_moment : Addr
  fd__law_is_moment : FuncData
  F__law_is_moment : Fun K "_law_is_moment" "_law_is_moment" st__law_is_moment a__law_is_moment fd__law_is_moment
  g__law_is_moment : mg "_law_is_moment" = some (.ref a__law_is_moment)
  a__law_is_mark : Addr
  fd__law_is_mark : FuncData
  F__law_is_mark : Fun K "_law_is_mark" "_law_is_mark" st__law_is_mark a__law_is_mark fd__law_is_mark
  g__law_is_mark : mg "_law_is_mark" = some (.ref a__law_is_mark)
  a__law_bent : Addr
  fd__law_bent : FuncData
  F__law_bent : Fun K "_law_bent" "_law_bent" st__law_bent a__law_bent fd__law_bent
  g__law_bent : mg "_law_bent" = some (.ref a__law_bent)
  a__law_right : Addr
  fd__law_right : FuncData
  F__law_right : Fun K "_law_right" "_law_right" st__law_right a__law_right fd__law_right
  g__law_right : mg "_law_right" = some (.ref a__law_right)
  a_law : Addr
  fd_law : FuncData
  F_law : Fun K "law" "law" st_law a_law fd_law
  g_law : mg "law" = some (.ref a_law)
  z_abs : mg "abs" = none
  z_all : mg "all" = none
  z_bool : mg "bool" = none
  z_divmod : mg "divmod" = none
  z_int : mg "int" = none
  z_isinstance : mg "isinstance" = none
  z_len : mg "len" = none
  z_list : mg "list" = none
  z_max : mg "max" = none
  z_min : mg "min" = none
  z_range : mg "range" = none
  z_repr : mg "repr" = none
  z_str : mg "str" = none
  z_tuple : mg "tuple" = none
  t_LETTERS : Tok
  c_LETTERS : mg "LETTERS" = some (.str "abcdefghijklmnopqrstuvwxyz" t_LETTERS)
  t_MOST_LETTERS : Tok
  c_MOST_LETTERS : mg "MOST_LETTERS" = some (.int 8 t_MOST_LETTERS)
  t_MOST_TIME : Tok
  c_MOST_TIME : mg "MOST_TIME" = some (.int 1000000000000000000 t_MOST_TIME)
section
variable {P : Program} {w : World} {K : PySem.W.Frag} {mg : Str → Option Value} {base : Heap}
theorem b_is_name (T : Tx K mg) : Binds K T.fd_is_name ["thing"] [] := T.F_is_name.binds fun _ _ _ _ _ _ us hl => match us, hl with | [_], _ => rfl
theorem b_is_time (T : Tx K mg) : Binds K T.fd_is_time ["thing"] [] := T.F_is_time.binds fun _ _ _ _ _ _ us hl => match us, hl with | [_], _ => rfl
theorem b_is_stamp (T : Tx K mg) : Binds K T.fd_is_stamp ["thing"] [] := T.F_is_stamp.binds fun _ _ _ _ _ _ us hl => match us, hl with | [_], _ => rfl
theorem b__law_pot (T : Tx K mg) : Binds K T.fd__law_pot ["_law_script", "_law_k"] [] := T.F__law_pot.binds fun _ _ _ _ _ _ us hl => match us, hl with | [_, _], _ => rfl
theorem b__law_draw (T : Tx K mg) : Binds K T.fd__law_draw ["_law_pot_here", "_law_many"] [] := T.F__law_draw.binds fun _ _ _ _ _ _ us hl => match us, hl with | [_, _], _ => rfl
theorem b__law_moment (T : Tx K mg) : Binds K T.fd__law_moment ["_law_pot_here"] [] := T.F__law_moment.binds fun _ _ _ _ _ _ us hl => match us, hl with | [_], _ => rfl
theorem b__law_mark (T : Tx K mg) : Binds K T.fd__law_mark ["_law_pot_here"] [] := T.F__law_mark.binds fun _ _ _ _ _ _ us hl => match us, hl with | [_], _ => rfl
theorem b__law_word (T : Tx K mg) : Binds K T.fd__law_word ["_law_pot_here"] [] := T.F__law_word.binds fun _ _ _ _ _ _ us hl => match us, hl with | [_], _ => rfl
theorem b__law_odd (T : Tx K mg) : Binds K T.fd__law_odd ["_law_pot_here"] [] := T.F__law_odd.binds fun _ _ _ _ _ _ us hl => match us, hl with | [_], _ => rfl
theorem b__law_is_word (T : Tx K mg) : Binds K T.fd__law_is_word ["_law_piece"] [] := T.F__law_is_word.binds fun _ _ _ _ _ _ us hl => match us, hl with | [_], _ => rfl
theorem b__law_is_moment (T : Tx K mg) : Binds K T.fd__law_is_moment ["_law_piece"] [] := T.F__law_is_moment.binds fun _ _ _ _ _ _ us hl => match us, hl with | [_], _ => rfl
theorem b__law_is_mark (T : Tx K mg) : Binds K T.fd__law_is_mark ["_law_piece"] [] := T.F__law_is_mark.binds fun _ _ _ _ _ _ us hl => match us, hl with | [_], _ => rfl
theorem b__law_bent (T : Tx K mg) : Binds K T.fd__law_bent ["_law_pot_here", "_law_mark_here"] [] := T.F__law_bent.binds fun _ _ _ _ _ _ us hl => match us, hl with | [_, _], _ => rfl
theorem b__law_right (T : Tx K mg) : Binds K T.fd__law_right ["_law_piece"] [] := T.F__law_right.binds fun _ _ _ _ _ _ us hl => match us, hl with | [_], _ => rfl
theorem b_law (T : Tx K mg) : Binds K T.fd_law ["_law_script"] [] := T.F_law.binds fun _ _ _ _ _ _ us hl => match us, hl with | [_], _ => rfl
theorem kb_is_name__0_thing (T : Tx K mg) : KBinds K T.fd_is_name ["thing"] ["thing"] (kwg 0 1 [0]) (kwg 0 1 [0]) :=
  kb_of T.F_is_name (by decide) fun _ _ _ _ _ _ us ws h1 h2 => match us, ws, h1, h2 with | [], [_], _, _ => rfl
theorem kb_is_stamp__0_thing (T : Tx K mg) : KBinds K T.fd_is_stamp ["thing"] ["thing"] (kwg 0 1 [0]) (kwg 0 1 [0]) :=
  kb_of T.F_is_stamp (by decide) fun _ _ _ _ _ _ us ws h1 h2 => match us, ws, h1, h2 with | [], [_], _, _ => rfl
theorem kb_is_time__0_thing (T : Tx K mg) : KBinds K T.fd_is_time ["thing"] ["thing"] (kwg 0 1 [0]) (kwg 0 1 [0]) :=
  kb_of T.F_is_time (by decide) fun _ _ _ _ _ _ us ws h1 h2 => match us, ws, h1, h2 with | [], [_], _, _ => rfl
def letters : Str := "abcdefghijklmnopqrstuvwxyz"
def isName : PyData → Bool
  | .str z => decide (1 ≤ z.length) && decide (z.length ≤ 8) && z.cps.toList.all fun c => decide (c ∈ letters.cps.toList)
  | _ => false
def isTime : PyData → Bool
  | .int i => decide (0 ≤ i) && decide (i ≤ 1000000000000000000)
  | _ => false
def isStamp : PyData → Bool
  | .tuple [a, b, c] => isTime a && (isName b && isTime c)
  | _ => false
theorem isName_no {d : PyData} (h : isD d "str" = false) : isName d = false := by
  cases d <;> first | rfl | simp [isD, tyD] at h
theorem int_yes {d : PyData} (h : isD d "int" = true) (h2 : isD d "bool" = false) : ∃ i, d = .int i := by
  cases d <;> simp [isD, tyD] at h h2 <;> exact ⟨_, rfl⟩
theorem isTime_no {d : PyData} (h : isD d "int" = false) : isTime d = false := by
  cases d <;> first | rfl | simp [isD, tyD] at h
theorem isTime_no2 {d : PyData} (h : isD d "bool" = true) : isTime d = false := by
  cases d <;> first | rfl | simp [isD, tyD] at h
theorem isStamp_no {d : PyData} (h : isD d "tuple" = false) : isStamp d = false := by
  cases d <;> first | rfl | simp [isD, tyD] at h
theorem isStamp_len {ds : List PyData} (h : ds.length ≠ 3) : isStamp (.tuple ds) = false := by
  match ds, h with
  | [], _ => rfl
  | [_], _ => rfl
  | [_, _], _ => rfl
  | [_, _, _], h => exact absurd rfl h
  | _ :: _ :: _ :: _ :: _, _ => rfl
theorem three {α : Type} {ds : List α} (h : ds.length = 3) : ∃ a b c, ds = [a, b, c] := by
  match ds, h with
  | [a, b, c], _ => exact ⟨a, b, c, rfl⟩
theorem dep_strs : ∀ ys : List Nat, PyData.depthAll (ys.map fun c => PyData.str ⟨#[c]⟩) ≤ 1
  | [] => by simp [PyData.depthAll]
  | y :: r => by have := dep_strs r; simp only [List.map_cons, PyData.depthAll, PyData.depth]; omega
theorem lay_strs : ∀ ys : List Nat, (∀ c ∈ ys, c < 1114112) → PyData.canLayAll0 (ys.map fun c => PyData.str ⟨#[c]⟩) = true
  | [], _ => rfl
  | y :: r, h => by
    rw [List.map_cons]
    simp only [PyData.canLayAll0, PyData.canLay0, ok_one (h y (by simp)), lay_strs r fun c hc => h c (List.mem_cons_of_mem _ hc), Bool.and_self]
theorem shaped_strs (ys : List Nat) (h : ∀ c ∈ ys, c < 1114112) : SeqAt.shaped (.list (ys.map fun c => PyData.str ⟨#[c]⟩)) = true := by
  have := dep_strs ys
  have h1 : PyData.canLay0 (.list (ys.map fun c => PyData.str ⟨#[c]⟩)) = true := by simpa only [PyData.canLay0] using lay_strs ys h
  have h2 : PyData.depth (.list (ys.map fun c => PyData.str ⟨#[c]⟩)) ≤ 64 := by simp only [PyData.depth]; omega
  unfold SeqAt.shaped
  rw [h1, decide_eq_true h2]
  rfl
theorem eqv_nil (ds : List PyData) : PyData.eqv (.list ds) (.list []) = ds.isEmpty := by
  cases ds <;> simp [PyData.eqv, PyData.eqvAll]
theorem p18 : (10 : Int) ^ Int.toNat 18 = 1000000000000000000 := by decide
theorem p60 : (10 : Int) ^ Int.toNat 60 = 1000000000000000000000000000000000000000000000000000000000000 := by decide
theorem tame60 {i : Int} (h0 : 0 ≤ i) (h : i ≤ 1000000000000000000000000000000000000000000000000000000000000) : Tame (.int i) 1 0 := tame_int (by have : (i.natAbs : Int) = i := Int.natAbs_of_nonneg h0; omega)
theorem tameN60 {i : Int} (h0 : 0 ≤ i) (h : i ≤ 1000000000000000000000000000000000000000000000000000000000000) : Tame (.int (-i)) 1 0 := tame_int (by have : (i.natAbs : Int) = i := Int.natAbs_of_nonneg h0; omega)
theorem letter_ok {c : Nat} (h : c ∈ letters.cps.toList) : c < 1114112 := by
  have : ∀ c ∈ letters.cps.toList, c < 1114112 := by decide +kernel
  exact this c h
theorem letters_len : letters.length = 26 := by decide +kernel
/-- a joined text of signs of one word -/
theorem word_of {ds : List PyData} {n : Nat} (hl : ds.length = n) (h : ∀ (i : Nat) (d : PyData), ds[i]? = some d → ∃ c, d = PyData.str ⟨#[c]⟩ ∧ c < 1114112) :
    ∃ ys : List Str, ds = ys.map .str ∧ (ys.map (·.length)).sum = n ∧ ys.length = n ∧ PyData.strOk (Txt.join "" ys) = true ∧ (Txt.join "" ys).length = n := by
  obtain ⟨ys, e, hy⟩ := strs_of (ds := ds) (P := fun z => z.length = 1 ∧ PyData.strOk z = true) (fun d hd => by
    obtain ⟨i, hi⟩ := List.getElem?_of_mem hd
    obtain ⟨c, rfl, hc⟩ := h i d hi
    exact ⟨_, rfl, rfl, ok_one hc⟩)
  have el : ys.length = n := by rw [← hl, e, List.length_map]
  have es := sum_ones ys (fun y h => (hy y h).1)
  refine ⟨ys, e, by rw [es, el], el, ok_join ys (fun y h => (hy y h).2), by rw [len_join, es, el]⟩
theorem sliD_sub {ds : List PyData} {lo hi : Option Int} {d : PyData} (h : d ∈ sliD ds lo hi) : d ∈ ds := List.mem_of_mem_drop (List.mem_of_mem_take h)
theorem sliD_len {ds : List PyData} {lo hi : Option Int} : (sliD ds lo hi).length ≤ ds.length := by
  unfold sliD
  rw [List.length_take, List.length_drop]
  omega
theorem tame7 {ds : List PyData} (h : ∀ d ∈ ds, Tame d 4 15) (hl : ds.length ≤ 7) : Tame (.tuple ds) 5 112 :=
  (tame_tup (tameL_of h)).mono (by omega) (by omega)
theorem same_pot {p : Addr} {H H1 H2 : Hp} (s : Same H H1) (hn : H p = none) (r : R p H1 H2) : Same H H2 := fun b o e =>
  r.keep b o (ne_of_none e hn) (s b o e)
def sp_is_name (K : PySem.W.Frag) : Sp := fun vs H Q _ => ∃ p Z v d, vs = [v] ∧ Wd p Z H ∧ Dat K Z H d v ∧ Tame d 40 50000 ∧ ∀ H', R p H H' → Q (.bl (isName d)) H'
theorem ok_is_name (T : Tx K mg) : FnG P w K mg base 1 T.a_is_name T.fd_is_name ["thing"] (sp_is_name K) := by
  refine FnG.ok T.F_is_name sc_is_name (fun vs H Q E h => ?_) (fun cdv A outer s H vs Q E hg hr h => ?_)
  · obtain ⟨_, _, _, _, rfl, _, _, _, _⟩ := h
    rfl
  · obtain ⟨p, Z, v, d, rfl, w, hd, t, q⟩ := h
    refine ⟨_, pss_cons (ps_if (PW.pt (pw_or (pt_not (pt_val (pe_callB (kx_isi (K := K) rfl) (by rfl) T.z_isinstance bt_isinstance (pa_cons (pv 0) (pa_cons (pe_bltn (v := .ty "str") (by rfl) T.z_str bt_str rfl) pa_nil))))) (pw_or1 (pt_not (pt_chain op_le op_le (pe_int) (pe_callB (kx_len (K := K) rfl) (by rfl) T.z_len bt_len (pa_cons (pv 0) pa_nil)) (pe_glob (v := (.int 8)) rfl T.c_MOST_LETTERS ⟨_, rfl⟩)))))) (pss_one (ps_ret (pe_bl))) pss_nil)
    (pss_one (ps_ret (pe_callB (kx_all (K := K) rfl rfl) (by rfl) T.z_all bt_all (pa_cons (pe_lc (own := [("sign", 1)]) (g := gName 1) (tt := tYes)  rfl sc_is_name.nd (pi_str (pv 0)) (blkOk_by (own := [("sign", 1)]) (N := N_is_name) (sc := defScope st_is_name) (by decide +kernel)) (fun _ _ _ _ _ => pg_name (i := 1) sc_is_name.nd rfl (by first | exact Or.inl rfl | exact Or.inr rfl)) (fun _ _ _ _ _ => pts_nil) (fun _ _ _ _ _ => pe_cmpR (kx_in (K := K) rfl) (pv 1) (pe_glob (v := (.str "abcdefghijklmnopqrstuvwxyz")) rfl T.c_LETTERS ⟨_, rfl⟩) rfl)) pa_nil)))), ?_⟩
    try dsimp only [cxg, cxOf, Cx.nox, Cx.wish]
    wtm_at "v"
    refine s_isi hd (by simp) ?_
    wtm_at "v"
    refine ite_nb (fun h => ?_) (fun h => ?_)
    · wtm_at "v"
      rw [← isName_no h]
      exact q H (R.refl _ _)
    · obtain ⟨z, rfl⟩ := isD_str h
      have ez := hd.str
      subst ez
      have hz := t.strlen
      wtm_at "v"
      refine s_len_str (sl_of hz) ?_
      wtm_at "v"
      refine ite_d (fun h1 => ?_) (fun h1 => ?_)
      · wtm_at "v"
        refine ite_nd (fun h2 => ?_) (fun h2 => ?_)
        · wtm_at "v"
          have e : isName (.str z) = false := by simp [isName]; omega
          rw [← e]
          exact q H (R.refl _ _)
        · wtm_at "v"
          refine s_lc_map (K := K) walk_str (sl_lt (show z.cps.size ≤ 50000 from hz)) w (fun i => .bool (decide (z.cps.toList.getD i 0 ∈ letters.cps.toList))) (fun _ _ => trivial) ?_ ?_
          · rintro D i x H1 H2 hD nz hi r w' ⟨rfl, c, hc, rfl⟩ F hF
            wtm_at "v"
            refine ⟨rfl, ?_⟩
            wtm_at "v"
            have e : z.cps.toList.getD i 0 = c := by simp [hc]
            exact hF _ _ (R.refl _ _) (by rw [e]; exact dat_bl)
          · intro H' v' r hv
            have el : (List.range z.cps.size).map (fun i => PyData.bool (decide (z.cps.toList.getD i 0 ∈ letters.cps.toList))) = (z.cps.toList.map fun c => decide (c ∈ letters.cps.toList)).map .bool := by
              rw [List.map_map]
              exact map_getD z.cps.toList 0 (fun c => PyData.bool (decide (c ∈ letters.cps.toList)))
            rw [el] at hv
            refine s_all hv ?_
            have e : isName (.str z) = (z.cps.toList.map fun c => decide (c ∈ letters.cps.toList)).all id := by
              have a : decide (1 ≤ z.length) = true := decide_eq_true (by omega)
              have b : decide (z.length ≤ 8) = true := decide_eq_true (by omega)
              simp only [isName, a, b, List.all_map, Function.comp_def, Bool.true_and, id]
            rw [← e]
            exact q _ r
      · wtm_at "v"
        have e : isName (.str z) = false := by simp [isName]; omega
        rw [← e]
        exact q H (R.refl _ _)
def sp_is_time (K : PySem.W.Frag) : Sp := fun vs H Q _ => ∃ p Z v d, vs = [v] ∧ Wd p Z H ∧ Dat K Z H d v ∧ ∀ H', R p H H' → Q (.bl (isTime d)) H'
theorem ok_is_time (T : Tx K mg) : FnG P w K mg base 1 T.a_is_time T.fd_is_time ["thing"] (sp_is_time K) := by
  refine FnG.ok T.F_is_time sc_is_time (fun vs H Q E h => ?_) (fun cdv A outer s H vs Q E hg hr h => ?_)
  · obtain ⟨_, _, _, _, rfl, _, _, _⟩ := h
    rfl
  · obtain ⟨p, Z, v, d, rfl, w, hd, q⟩ := h
    refine ⟨_, pss_one (ps_ret (pe_and (pe_callB (kx_isi (K := K) rfl) (by rfl) T.z_isinstance bt_isinstance (pa_cons (pv 0) (pa_cons (pe_bltn (v := .ty "int") (by rfl) T.z_int bt_int rfl) pa_nil))) (pe_and (pe_not (pe_callB (kx_isi (K := K) rfl) (by rfl) T.z_isinstance bt_isinstance (pa_cons (pv 0) (pa_cons (pe_bltn (v := .ty "bool") (by rfl) T.z_bool bt_bool rfl) pa_nil)))) (pe_one (pe_chain op_le op_le (pe_int) (pv 0) (pe_glob (v := (.int 1000000000000000000)) rfl T.c_MOST_TIME ⟨_, rfl⟩)))))), ?_⟩
    try dsimp only [cxg, cxOf, Cx.nox, Cx.wish]
    wtm_at "v"
    refine s_isi hd (by simp) ?_
    wtm_at "v"
    refine ite_b (fun h => ?_) (fun h => ?_)
    · wtm_at "v"
      refine s_isi hd (by simp) ?_
      wtm_at "v"
      refine ite_nb (fun h2 => ?_) (fun h2 => ?_)
      · obtain ⟨i, rfl⟩ := int_yes h h2
        have ez := hd.int
        subst ez
        wtm_at "v"
        refine ite_d (fun h3 => ?_) (fun h3 => ?_)
        · wtm_at "v"
          have e : isTime (.int i) = decide (i ≤ 1000000000000000000) := by simp [isTime, h3]
          first | rw [← e] | (show Q (.bl (decide (i ≤ 1000000000000000000))) H; rw [← e])
          exact q H (R.refl _ _)
        · have e : isTime (.int i) = false := by simp [isTime]; omega
          rw [← e]
          exact q H (R.refl _ _)
      · rw [← isTime_no2 h2]
        exact q H (R.refl _ _)
    · rw [← isTime_no h]
      exact q H (R.refl _ _)
def sp_is_stamp (K : PySem.W.Frag) : Sp := fun vs H Q _ => ∃ p Z v d, vs = [v] ∧ Wd p Z H ∧ Dat K Z H d v ∧ Tame d 40 50000 ∧ ∀ H', R p H H' → Q (.bl (isStamp d)) H'
theorem ok_is_stamp (T : Tx K mg) : FnG P w K mg base 2 T.a_is_stamp T.fd_is_stamp ["thing"] (sp_is_stamp K) := by
  refine FnG.ok T.F_is_stamp sc_is_stamp (fun vs H Q E h => ?_) (fun cdv A outer s H vs Q E hg hr h => ?_)
  · obtain ⟨_, _, _, _, rfl, _, _, _, _⟩ := h
    rfl
  · obtain ⟨p, Z, v, d, rfl, w, hd, t, q⟩ := h
    refine ⟨_, pss_cons (ps_if (PW.pt (pw_or (pt_not (pt_val (pe_callB (kx_isi (K := K) rfl) (by rfl) T.z_isinstance bt_isinstance (pa_cons (pv 0) (pa_cons (pe_bltn (v := .ty "tuple") (by rfl) T.z_tuple bt_tuple rfl) pa_nil))))) (pw_or1 (pt_cmpR (kx_ne (K := K) rfl hr) (pe_callB (kx_len (K := K) rfl) (by rfl) T.z_len bt_len (pa_cons (pv 0) pa_nil)) (pe_int) (nomark _))))) (pss_one (ps_ret (pe_bl))) pss_nil)
    (pss_one (ps_ret (pe_and (pe_fn ((ok_is_time T).at hg (hr.mono (by decide)) (b_is_time T) .nil passN) rfl T.g_is_time T.F_is_time.kp (pa_cons (pe_ix (kx_ix (K := K) rfl) (pv 0) (pe_int) (fun _ _ => rfl)) pa_nil)) (pe_and (pe_fn ((ok_is_name T).at hg (hr.mono (by decide)) (b_is_name T) .nil passN) rfl T.g_is_name T.F_is_name.kp (pa_cons (pe_ix (kx_ix (K := K) rfl) (pv 0) (pe_int) (fun _ _ => rfl)) pa_nil)) (pe_one (pe_fn ((ok_is_time T).at hg (hr.mono (by decide)) (b_is_time T) .nil passN) rfl T.g_is_time T.F_is_time.kp (pa_cons (pe_ix (kx_ix (K := K) rfl) (pv 0) (pe_int) (fun _ _ => rfl)) pa_nil))))))), ?_⟩
    try dsimp only [cxg, cxOf, Cx.nox, Cx.wish]
    wtm_at "v"
    refine s_isi hd (by simp) ?_
    wtm_at "v"
    refine ite_nb (fun h => ?_) (fun h => ?_)
    · wtm_at "v"
      rw [← isStamp_no h]
      exact q H (R.refl _ _)
    · obtain ⟨ds, rfl⟩ := isD_tup h
      wtm_at "v"
      refine s_len_tup hd ?_
      wtm_at "v"
      refine ite_nd (fun h1 => ?_) (fun h1 => ?_)
      · wtm_at "v"
        rw [← isStamp_len (ds := ds) (by omega)]
        exact q H (R.refl _ _)
      · obtain ⟨a, b, c, rfl⟩ := three (ds := ds) (by omega)
        have tL := t.tupL
        wtm_at "v"
        refine s_ix_tup hd (by decide) (by simp) (fun va a' ea ha => ?_)
        obtain rfl : a = a' := by simpa using ea
        wtm_at "v"
        refine ⟨p, Z, va, a, rfl, w, ha, fun H1 r1 => ?_⟩
        wtm_at "v"
        refine ite_b (fun h2 => ?_) (fun h2 => ?_)
        · have w1 := w.up r1
          have hd1 := hd.to w r1
          wtm_at "v"
          refine s_ix_tup hd1 (by decide) (by simp) (fun vb b' eb hb => ?_)
          obtain rfl : b = b' := by simpa using eb
          wtm_at "v"
          refine ⟨p, Z, vb, b, rfl, w1, hb, tL.get (by simp), fun H2 r2 => ?_⟩
          wtm_at "v"
          refine ite_b (fun h3 => ?_) (fun h3 => ?_)
          · have w2 := w1.up r2
            have hd2 := hd1.to w1 r2
            wtm_at "v"
            refine s_ix_tup hd2 (by decide) (by simp) (fun vc c' ec hc => ?_)
            obtain rfl : c = c' := by simpa using ec
            wtm_at "v"
            refine ⟨p, Z, vc, c, rfl, w2, hc, fun H3 r3 => ?_⟩
            have e : isStamp (.tuple [a, b, c]) = isTime c := by simp [isStamp, h2, h3]
            rw [← e]
            exact q _ ((r1.trans r2).trans r3)
          · have e : isStamp (.tuple [a, b, c]) = false := by simp [isStamp, h2, h3]
            rw [← e]
            exact q _ (r1.trans r2)
        · have e : isStamp (.tuple [a, b, c]) = false := by simp [isStamp, h2]
          rw [← e]
          exact q _ r1
def sp__law_pot (K : PySem.W.Frag) : Sp := fun vs H Q _ => ∃ (a : Addr) (ns : List Int) (k : Nat), vs = [.ref a, .int k] ∧ SqL K H a (ns.map V.int) ∧ k < 100 ∧ ∀ H' p, Same H H' → H p = none → Pot p H' → Q (.ref p) H'
theorem ok__law_pot (T : Tx K mg) : FnG P w K mg base 1 T.a__law_pot T.fd__law_pot ["_law_script", "_law_k"] (sp__law_pot K) := by
  refine FnG.ok T.F__law_pot sc__law_pot (fun vs H Q E h => ?_) (fun cdv A outer s H vs Q E hg hr h => ?_)
  · obtain ⟨_, _, _, rfl, _, _, _⟩ := h
    rfl
  · obtain ⟨a, ns, k, rfl, hS, hk, q⟩ := h
    refine ⟨_, pss_cons (ps_set (i := 2) sc__law_pot.nd rfl (by first | exact Or.inl rfl | exact Or.inr rfl) (pe_ifExp (pt_cmpR op_lt (pv 1) (pe_callB (kx_len (K := K) rfl) (by rfl) T.z_len bt_len (pa_cons (pv 0) pa_nil)) (nomark _)) (pe_ix (kx_ix (K := K) rfl) (pv 0) (pv 1) (fun _ _ => rfl)) (pe_int)))
    (pss_one (ps_ret (pe_lst (pa_cons (pe_callB (call_max2 rfl) (by rfl) T.z_max bt_max (pa_cons (pe_int) (pa_cons (pe_op op_sub (pe_callB call_abs (by rfl) T.z_abs bt_abs (pa_cons (pv 2) pa_nil)) (pe_op op_pow (pe_int) (pe_int))) pa_nil))) (pa_cons (pe_op op_modA (pe_op (kx_add (K := K) rfl) (pe_op (kx_add (K := K) rfl) (pe_op op_mul (pe_op op_modA (pe_callB call_abs (by rfl) T.z_abs bt_abs (pa_cons (pv 2) pa_nil)) (pe_int)) (pe_int)) (pe_op op_mul (pe_int) (pv 1))) (pe_int)) (pe_int)) pa_nil))))), ?_⟩
    try dsimp only [cxg, cxOf, Cx.nox, Cx.wish]
    wtm_at "v"
    refine .inl ⟨a, _, rfl, .inl hS, ?_⟩
    wtm_at "v"
    refine ite_d (fun h0 => ?_) (fun h0 => ?_)
    · rw [List.length_map] at h0
      wtm_at "v"
      refine s_script hS (by omega) (fun z hz => ?_)
      wtm_at "v"
      refine ⟨by simp; decide, fun p hp => q _ _ (same_new hp) hp ⟨_, _, upd_same, by split <;> omega, Int.emod_nonneg _ (by decide), Int.emod_lt_of_pos _ (by decide)⟩⟩
    · wtm_at "v"
      refine ⟨by simp; decide, fun p hp => q _ _ (same_new hp) hp ⟨_, _, upd_same, by split <;> omega, Int.emod_nonneg _ (by decide), Int.emod_lt_of_pos _ (by decide)⟩⟩
def sp__law_draw (K : PySem.W.Frag) : Sp := fun vs H Q _ => ∃ p n, vs = [.ref p, .int n] ∧ Pot p H ∧ 0 < n ∧ n.natAbs < 2 ^ 200 ∧ ∀ H' d, R p H H' → 0 ≤ d → d < n → Q (.int d) H'
theorem ok__law_draw (T : Tx K mg) : FnG P w K mg base 1 T.a__law_draw T.fd__law_draw ["_law_pot_here", "_law_many"] (sp__law_draw K) := by
  refine FnG.ok T.F__law_draw sc__law_draw (fun vs H Q E h => ?_) (fun cdv A outer s H vs Q E hg hr h => ?_)
  · obtain ⟨_, _, rfl, ⟨_, _, _, _, _, _⟩, _, _, _⟩ := h
    rfl
  · obtain ⟨p, n, rfl, ⟨a, b, e, ha, hb, hb2⟩, hn, hn2, q⟩ := h
    refine ⟨_, pss_cons (ps_if (pt_cmpR op_gt (pe_ix (kx_ix (K := K) rfl) (pv 0) (pe_int) (fun _ _ => rfl)) (pe_int) (nomark _)) (pss_cons (ps_asg (pe_callB call_divmodW (by rfl) T.z_divmod bt_divmod (pa_cons (pe_ix (kx_ix (K := K) rfl) (pv 0) (pe_int) (fun _ _ => rfl)) (pa_cons (pv 1) pa_nil))) (pg_tup rfl (pgs_cons (pg_sub (pv 0) (pe_int) set_list) (pgs_cons (pg_name (i := 2) sc__law_draw.nd rfl (by first | exact Or.inl rfl | exact Or.inr rfl)) pgs_nil))))
    (pss_one (ps_ret (pv 2)))) pss_nil)
    (pss_cons (ps_asg (pe_op op_modA (pe_op (kx_add (K := K) rfl) (pe_op op_mul (pe_ix (kx_ix (K := K) rfl) (pv 0) (pe_int) (fun _ _ => rfl)) (pe_int)) (pe_int)) (pe_int)) (pg_sub (pv 0) (pe_int) set_list))
    (pss_one (ps_ret (pe_op op_modA (pe_op op_fdivA (pe_op op_modA (pe_op op_mul (pe_ix (kx_ix (K := K) rfl) (pv 0) (pe_int) (fun _ _ => rfl)) (pe_ix (kx_ix (K := K) rfl) (pv 0) (pe_int) (fun _ _ => rfl))) (pe_int)) (pe_int)) (pv 1))))), ?_⟩
    try dsimp only [cxg, cxOf, Cx.nox, Cx.wish]
    have nf : ∀ x u, HO.lst [.int a, .int b] ≠ .frz x u := fun x u z => by cases z
    wtm_at "v"
    refine s_pot0 e ?_
    wtm_at "v"
    refine ite_d (fun h0 => ?_) (fun h0 => ?_)
    · wtm_at "v"
      refine s_pot0 e ?_
      wtm_at "v"
      refine ⟨wide_div hn hn2 (by decide) (by decide), fun t ht => ?_⟩
      have e' : (upd H t (.tup [.int (a / n), .int (a % n)])) p = some (.lst [.int a, .int b]) := by
        rw [upd_ne (ne_of_none e ht)]; exact e
      refine s_gtup (SqT.of upd_same) rfl ?_
      wtm_at "v"
      refine s_pset0 e' ?_
      wtm_at "v"
      refine q _ _ ((R.new ht).trans (R.draw e' nf (Int.ediv_nonneg ha (by omega)) hb hb2)) (Int.emod_nonneg _ (by omega)) (Int.emod_lt_of_pos _ hn)
    · wtm_at "v"
      refine s_pot1 e ?_
      wtm_at "v"
      refine s_pset1 e ?_
      have hb' := Int.emod_nonneg (b * 39373 + 12227) (show (2147483629 : Int) ≠ 0 by decide)
      have hb3 := Int.emod_lt_of_pos (b * 39373 + 12227) (show (0 : Int) < 2147483629 by decide)
      generalize (b * 39373 + 12227) % 2147483629 = c at hb' hb3
      have e2 : (upd H p (.lst [.int a, .int c])) p = some (.lst [.int a, .int c]) := upd_same
      wtm_at "v"
      refine s_pot1 e2 ?_
      wtm_at "v"
      refine s_pot1 e2 ?_
      wtm_at "v"
      wtm_at "v"
      exact q _ _ (R.draw e nf ha hb' (by omega)) (Int.emod_nonneg _ (by omega)) (Int.emod_lt_of_pos _ hn)
def sp__law_moment (K : PySem.W.Frag) : Sp := fun vs H Q _ => ∃ p Z, vs = [.ref p] ∧ Wd p Z H ∧ Pot p H ∧ ∀ H' i, R p H H' → 0 ≤ i → i ≤ 1000000000000000000 → Q (.int i) H'
theorem ok__law_moment (T : Tx K mg) : FnG P w K mg base 2 T.a__law_moment T.fd__law_moment ["_law_pot_here"] (sp__law_moment K) := by
  refine FnG.ok T.F__law_moment sc__law_moment (fun vs H Q E h => ?_) (fun cdv A outer s H vs Q E hg hr h => ?_)
  · obtain ⟨_, _, rfl, _, _, _⟩ := h
    rfl
  · obtain ⟨p, Z, rfl, w, hp, q⟩ := h
    refine ⟨_, pss_cons (ps_set (i := 1) sc__law_moment.nd rfl (by first | exact Or.inl rfl | exact Or.inr rfl) (pe_fn ((ok__law_draw T).at hg (hr.mono (by decide)) (b__law_draw T) .nil passN) rfl T.g__law_draw T.F__law_draw.kp (pa_cons (pv 0) (pa_cons (pe_op (kx_add (K := K) rfl) (pe_op op_pow (pe_int) (pe_int)) (pe_int)) pa_nil))))
    (pss_one (ps_ret (pe_ix (kx_ix (K := K) rfl) (pe_lst (pa_cons (pe_fn ((ok__law_draw T).at hg (hr.mono (by decide)) (b__law_draw T) .nil passN) rfl T.g__law_draw T.F__law_draw.kp (pa_cons (pv 0) (pa_cons (pe_int) pa_nil))) (pa_cons (pe_fn ((ok__law_draw T).at hg (hr.mono (by decide)) (b__law_draw T) .nil passN) rfl T.g__law_draw T.F__law_draw.kp (pa_cons (pv 0) (pa_cons (pe_int) pa_nil))) (pa_cons (pv 1) (pa_cons (pe_op op_pow (pe_int) (pe_int)) (pa_cons (pe_int) pa_nil)))))) (pe_fn ((ok__law_draw T).at hg (hr.mono (by decide)) (b__law_draw T) .nil passN) rfl T.g__law_draw T.F__law_draw.kp (pa_cons (pv 0) (pa_cons (pe_int) pa_nil))) (fun _ _ => rfl)))), ?_⟩
    try dsimp only [cxg, cxOf, Cx.nox, Cx.wish]
    wtm_at "v"
    refine ⟨p, _, rfl, hp, by decide, by decide, fun H1 d1 r1 a1 b1 => ?_⟩
    rw [p18] at b1
    wtm_at "v"
    have hp1 := r1.pot hp
    refine ⟨p, _, rfl, hp1, by decide, by decide, fun H2 d2 r2 a2 b2 => ?_⟩
    wtm_at "v"
    have hp2 := r2.pot hp1
    refine ⟨p, _, rfl, hp2, by decide, by decide, fun H3 d3 r3 a3 b3 => ?_⟩
    wtm_at "v"
    have hp3 := r3.pot hp2
    have r123 := (r1.trans r2).trans r3
    have w3 := w.up r123
    refine s_newl K w3 (datL_cons dat_int (datL_cons dat_int (datL_cons dat_int (datL_cons dat_int (datL_cons dat_int datL_nil))))) (by simp) (fun H4 v4 r4 h4 => ?_)
    wtm_at "v"
    refine ⟨p, _, rfl, r4.pot hp3, by decide, by decide, fun H5 d5 r5 a5 b5 => ?_⟩
    refine s_pick (h4.to (w3.up r4) r5) a5 (by simpa using b5) (fun v d hm hd => ?_)
    have rr := (r123.trans r4).trans r5
    simp only [List.mem_cons, List.not_mem_nil, or_false] at hm
    rcases hm with rfl | rfl | rfl | rfl | rfl <;> (rw [hd.int]; refine q _ _ rr ?_ ?_ <;> first | omega | decide)
def sp__law_mark (K : PySem.W.Frag) : Sp := fun vs H Q _ => ∃ p Z, vs = [.ref p] ∧ Wd p Z H ∧ Pot p H ∧ ∀ H' v a b c, R p H H' → Dat K Z H' (.tuple [a, b, c]) v → TameL [a, b, c] 1 15 → Q v H'
theorem ok__law_mark (T : Tx K mg) : FnG P w K mg base 3 T.a__law_mark T.fd__law_mark ["_law_pot_here"] (sp__law_mark K) := by
  refine FnG.ok T.F__law_mark sc__law_mark (fun vs H Q E h => ?_) (fun cdv A outer s H vs Q E hg hr h => ?_)
  · obtain ⟨_, _, rfl, _, _, _⟩ := h
    rfl
  · obtain ⟨p, Z, rfl, w, hp, q⟩ := h
    refine ⟨_, pss_cons (ps_set (i := 1) sc__law_mark.nd rfl (by first | exact Or.inl rfl | exact Or.inr rfl) (pe_str))
    (pss_cons (ps_set (i := 2) sc__law_mark.nd rfl (by first | exact Or.inl rfl | exact Or.inr rfl) (pe_joinK (K := K) rfl (pe_str) (pe_lc (own := [("_law_k", 3)]) (g := gName 3) (tt := tYes)  rfl sc__law_mark.nd (pi_range1 rfl T.z_range (pa_cons (pe_op (kx_add (K := K) rfl) (pe_int) (pe_fn ((ok__law_draw T).at hg (hr.mono (by decide)) (b__law_draw T) .nil passN) rfl T.g__law_draw T.F__law_draw.kp (pa_cons (pv 0) (pa_cons (pe_int) pa_nil)))) pa_nil)) (blkOk_by (own := [("_law_k", 3)]) (N := N__law_mark) (sc := defScope st__law_mark) (by decide +kernel)) (fun _ _ _ _ _ => pg_name (i := 3) sc__law_mark.nd rfl (by first | exact Or.inl rfl | exact Or.inr rfl)) (fun _ _ _ _ _ => pts_nil) (fun _ _ _ _ _ => pe_ix (kx_ix (K := K) rfl) (pv 1) (pe_fn ((ok__law_draw T).at hg (hr.mono (by decide)) (b__law_draw T) .nil passN) rfl T.g__law_draw T.F__law_draw.kp (pa_cons (pv 0) (pa_cons (pe_int) pa_nil))) (fun _ _ => rfl)))))
    (pss_cons (ps_set (i := 4) sc__law_mark.nd rfl (by first | exact Or.inl rfl | exact Or.inr rfl) (pe_ix (kx_ix (K := K) rfl) (pe_lst (pa_cons (pe_str) (pa_cons (pe_str) (pa_cons (pe_str) (pa_cons (pe_str) (pa_cons (pv 2) pa_nil)))))) (pe_fn ((ok__law_draw T).at hg (hr.mono (by decide)) (b__law_draw T) .nil passN) rfl T.g__law_draw T.F__law_draw.kp (pa_cons (pv 0) (pa_cons (pe_int) pa_nil))) (fun _ _ => rfl)))
    (pss_cons (ps_set (i := 5) sc__law_mark.nd rfl (by first | exact Or.inl rfl | exact Or.inr rfl) (pe_fn ((ok__law_draw T).at hg (hr.mono (by decide)) (b__law_draw T) .nil passN) rfl T.g__law_draw T.F__law_draw.kp (pa_cons (pv 0) (pa_cons (pe_op (kx_add (K := K) rfl) (pe_op op_pow (pe_int) (pe_int)) (pe_int)) pa_nil))))
    (pss_one (ps_ret (pe_tup (pa_cons (pe_fn ((ok__law_moment T).at hg (hr.mono (by decide)) (b__law_moment T) .nil passN) rfl T.g__law_moment T.F__law_moment.kp (pa_cons (pv 0) pa_nil)) (pa_cons (pv 4) (pa_cons (pe_ix (kx_ix (K := K) rfl) (pe_lst (pa_cons (pe_int) (pa_cons (pe_int) (pa_cons (pe_int) (pa_cons (pe_fn ((ok__law_draw T).at hg (hr.mono (by decide)) (b__law_draw T) .nil passN) rfl T.g__law_draw T.F__law_draw.kp (pa_cons (pv 0) (pa_cons (pe_int) pa_nil))) (pa_cons (pv 5) pa_nil)))))) (pe_fn ((ok__law_draw T).at hg (hr.mono (by decide)) (b__law_draw T) .nil passN) rfl T.g__law_draw T.F__law_draw.kp (pa_cons (pv 0) (pa_cons (pe_int) pa_nil))) (fun _ _ => rfl)) pa_nil))))))))), ?_⟩
    try dsimp only [cxg, cxOf, Cx.nox, Cx.wish]
    wtm_at "v"
    refine s_m1 ?_
    wtm_at "v"
    refine ⟨⟨_, rfl⟩, ?_⟩
    wtm_at "v"
    refine ⟨p, _, rfl, hp, by decide, by decide, fun H1 d1 r1 a1 b1 => ?_⟩
    have hp1 := r1.pot hp
    have w1 := w.up r1
    wtm_at "v"
    refine ⟨by omega, by omega, ?_⟩
    refine s_lc_any (K := K) walk_r0 (sl_lt (by omega)) w1 (fun _ d => ∃ c, d = PyData.str ⟨#[c]⟩ ∧ c < 1114112) (fun _ _ => trivial) ?_ ?_
    · rintro D i x H4 H5 hD nz hi r4 w4 ⟨rfl, rfl⟩ F hF
      wtm_at "v"
      refine ⟨rfl, ?_⟩
      wtm_at "v"
      refine ⟨p, _, rfl, r4.pot hp1, by decide, by decide, fun H6 d6 r6 a6 b6 => ?_⟩
      refine s_ix_str (by decide +kernel) a6 (by rw [show (Str.ofString "abcdefghijklmnopqrstuvwxyz").length = 26 by decide +kernel]; omega) (fun c hc => ?_)
      exact hF _ _ _ r6 dat_str ⟨c, rfl, letter_ok (List.mem_of_getElem? hc)⟩
    · intro H4 v4 ds r4 hl hds hv4
      obtain ⟨ys, rfl, sum, yl, ok, len⟩ := word_of hl hds
      have w4 := w1.up r4
      have hp4 := r4.pot hp1
      refine s_join hv4 (by rw [sum, yl, show (Str.ofString "").length = 0 by decide +kernel]; omega) ?_
      generalize hz : Txt.join (Str.ofString "") ys = z
      rw [show Txt.join "" ys = z from hz] at ok len
      have lz : z.length ≤ 8 := by omega
      wtm_at "v"
      refine s_newl K w4 (datL_cons dat_str (datL_cons dat_str (datL_cons dat_str (datL_cons dat_str (datL_cons dat_str datL_nil))))) (by simp) (fun H5 v5 r5 h5 => ?_)
      wtm_at "v"
      have w5 := w4.up r5
      have hp5 := r5.pot hp4
      refine ⟨p, _, rfl, hp5, by decide, by decide, fun H6 d6 r6 a6 b6 => ?_⟩
      have w6 := w5.up r6
      have hp6 := r6.pot hp5
      refine s_pick (h5.to w5 r6) a6 (by simpa using b6) (fun v d hm hd => ?_)
      obtain ⟨y, rfl, hy, oy⟩ : ∃ y : Str, d = .str y ∧ y.length ≤ 8 ∧ PyData.strOk y = true := by
        simp only [List.mem_cons, List.not_mem_nil, or_false] at hm
        rcases hm with rfl | rfl | rfl | rfl | rfl
        · exact ⟨_, rfl, by decide +kernel, by decide +kernel⟩
        · exact ⟨_, rfl, by decide +kernel, by decide +kernel⟩
        · exact ⟨_, rfl, by decide +kernel, by decide +kernel⟩
        · exact ⟨_, rfl, by decide +kernel, by decide +kernel⟩
        · exact ⟨z, rfl, lz, ok⟩
      have ev := hd.str
      subst ev
      wtm_at "v"
      refine ⟨p, _, rfl, hp6, by decide, by decide, fun H7 d7 r7 a7 b7 => ?_⟩
      rw [p18] at b7
      have w7 := w6.up r7
      have hp7 := r7.pot hp6
      wtm_at "v"
      refine ⟨p, Z, rfl, w7, hp7, fun H8 i8 r8 a8 b8 => ?_⟩
      have w8 := w7.up r8
      have hp8 := r8.pot hp7
      wtm_at "v"
      refine ⟨p, _, rfl, hp8, by decide, by decide, fun H9 d9 r9 a9 b9 => ?_⟩
      have w9 := w8.up r9
      have hp9 := r9.pot hp8
      wtm_at "v"
      refine s_newl K w9 (datL_cons dat_int (datL_cons dat_int (datL_cons dat_int (datL_cons dat_int (datL_cons dat_int datL_nil))))) (by simp) (fun H10 v10 r10 h10 => ?_)
      have w10 := w9.up r10
      have hp10 := r10.pot hp9
      wtm_at "v"
      refine ⟨p, _, rfl, hp10, by decide, by decide, fun H11 d11 r11 a11 b11 => ?_⟩
      refine s_pick (h10.to w10 r11) a11 (by simpa using b11) (fun u d hm hd => ?_)
      obtain ⟨j, rfl, j0, j1⟩ : ∃ j : Int, d = .int j ∧ 0 ≤ j ∧ j ≤ 1000000000000000000 := by
        simp only [List.mem_cons, List.not_mem_nil, or_false] at hm
        rcases hm with rfl | rfl | rfl | rfl | rfl
        · exact ⟨_, rfl, by decide, by decide⟩
        · exact ⟨_, rfl, by decide, by decide⟩
        · exact ⟨_, rfl, by decide, by decide⟩
        · exact ⟨_, rfl, by omega, by omega⟩
        · exact ⟨_, rfl, by omega, by omega⟩
      have eu := hd.int
      subst eu
      have w11 := w10.up r11
      wtm_at "v"
      refine s_newt K w11 (datL_cons dat_int (datL_cons dat_str (datL_cons dat_int datL_nil))) (by simp) (fun H12 v12 r12 h12 => ?_)
      refine q _ _ _ _ _ (r1.trans (r4.trans (r5.trans (r6.trans (r7.trans (r8.trans (r9.trans (r10.trans (r11.trans r12))))))))) h12 ?_
      exact (tameL_cons (tame60 a8 (by omega)) (tameL_cons (tame_str hy oy) (tameL_cons (tame60 j0 (by omega)) (tameL_nil.mono (Nat.zero_le 1) (Nat.le_refl _))))).mono (Nat.le_refl _) (by decide)
def sp__law_word (K : PySem.W.Frag) : Sp := fun vs H Q _ => ∃ p Z, vs = [.ref p] ∧ Wd p Z H ∧ Pot p H ∧ ∀ H' z, R p H H' → z.length ≤ 10 → PyData.strOk z = true → Q (.str z) H'
theorem ok__law_word (T : Tx K mg) : FnG P w K mg base 2 T.a__law_word T.fd__law_word ["_law_pot_here"] (sp__law_word K) := by
  refine FnG.ok T.F__law_word sc__law_word (fun vs H Q E h => ?_) (fun cdv A outer s H vs Q E hg hr h => ?_)
  · obtain ⟨_, _, rfl, _, _, _⟩ := h
    rfl
  · obtain ⟨p, Z, rfl, w, hp, q⟩ := h
    refine ⟨_, pss_cons (ps_set (i := 1) sc__law_word.nd rfl (by first | exact Or.inl rfl | exact Or.inr rfl) (pe_str))
    (pss_cons (ps_set (i := 2) sc__law_word.nd rfl (by first | exact Or.inl rfl | exact Or.inr rfl) (pe_joinK (K := K) rfl (pe_str) (pe_lc (own := [("_law_k", 3)]) (g := gName 3) (tt := tYes)  rfl sc__law_word.nd (pi_range1 rfl T.z_range (pa_cons (pe_ix (kx_ix (K := K) rfl) (pe_lst (pa_cons (pe_int) (pa_cons (pe_int) (pa_cons (pe_fn ((ok__law_draw T).at hg (hr.mono (by decide)) (b__law_draw T) .nil passN) rfl T.g__law_draw T.F__law_draw.kp (pa_cons (pv 0) (pa_cons (pe_int) pa_nil))) pa_nil)))) (pe_fn ((ok__law_draw T).at hg (hr.mono (by decide)) (b__law_draw T) .nil passN) rfl T.g__law_draw T.F__law_draw.kp (pa_cons (pv 0) (pa_cons (pe_int) pa_nil))) (fun _ _ => rfl)) pa_nil)) (blkOk_by (own := [("_law_k", 3)]) (N := N__law_word) (sc := defScope st__law_word) (by decide +kernel)) (fun _ _ _ _ _ => pg_name (i := 3) sc__law_word.nd rfl (by first | exact Or.inl rfl | exact Or.inr rfl)) (fun _ _ _ _ _ => pts_nil) (fun _ _ _ _ _ => pe_ix (kx_ix (K := K) rfl) (pv 1) (pe_fn ((ok__law_draw T).at hg (hr.mono (by decide)) (b__law_draw T) .nil passN) rfl T.g__law_draw T.F__law_draw.kp (pa_cons (pv 0) (pa_cons (pe_int) pa_nil))) (fun _ _ => rfl)))))
    (pss_cons (ps_par (i := 4) (j := 5) (by rfl) sc__law_word.nd rfl rfl (by decide) rfl rfl (pa_cons (pe_fn ((ok__law_draw T).at hg (hr.mono (by decide)) (b__law_draw T) .nil passN) rfl T.g__law_draw T.F__law_draw.kp (pa_cons (pv 0) (pa_cons (pe_op (kx_add (K := K) rfl) (pe_callB (kx_len (K := K) rfl) (by rfl) T.z_len bt_len (pa_cons (pv 2) pa_nil)) (pe_int)) pa_nil))) (pa_cons (pe_ix (kx_ix (K := K) rfl) (pe_str) (pe_fn ((ok__law_draw T).at hg (hr.mono (by decide)) (b__law_draw T) .nil passN) rfl T.g__law_draw T.F__law_draw.kp (pa_cons (pv 0) (pa_cons (pe_int) pa_nil))) (fun _ _ => rfl)) pa_nil)) (by rfl))
    (pss_one (ps_ret (pe_ifExp (pt_cmpR (kx_eq (K := K) rfl hr) (pe_fn ((ok__law_draw T).at hg (hr.mono (by decide)) (b__law_draw T) .nil passN) rfl T.g__law_draw T.F__law_draw.kp (pa_cons (pv 0) (pa_cons (pe_int) pa_nil))) (pe_int) (nomark _)) (pe_op (kx_add (K := K) rfl) (pe_op (kx_add (K := K) rfl) (pe_slice (kx_sl (K := K) rfl) (pv 2) po_none (po_some (pv 4))) (pv 5)) (pe_slice (kx_sl (K := K) rfl) (pv 2) (po_some (pv 4)) po_none)) (pv 2)))))), ?_⟩
    try dsimp only [cxg, cxOf, Cx.nox, Cx.wish]
    wtm_at "v"
    refine s_m1 ?_
    wtm_at "v"
    refine ⟨⟨_, rfl⟩, ?_⟩
    wtm_at "v"
    refine ⟨p, _, rfl, hp, by decide, by decide, fun H1 d1 r1 a1 b1 => ?_⟩
    wtm_at "v"
    have hp1 := r1.pot hp
    have w1 := w.up r1
    refine s_newl K w1 (datL_cons dat_int (datL_cons dat_int (datL_cons dat_int datL_nil))) (by simp) (fun H2 v2 r2 h2 => ?_)
    wtm_at "v"
    have hp2 := r2.pot hp1
    have w2 := w1.up r2
    refine ⟨p, _, rfl, hp2, by decide, by decide, fun H3 d3 r3 a3 b3 => ?_⟩
    have hp3 := r3.pot hp2
    have w3 := w2.up r3
    have r123 := (r1.trans r2).trans r3
    refine s_pick (h2.to w2 r3) a3 (by simpa using b3) (fun v d hm hd => ?_)
    obtain ⟨n, hn9, rfl⟩ : ∃ n : Nat, n ≤ 9 ∧ v = .int n := by
      simp only [List.mem_cons, List.not_mem_nil, or_false] at hm
      rcases hm with rfl | rfl | rfl
      · exact ⟨1, by decide, hd.int⟩
      · exact ⟨8, by decide, hd.int⟩
      · exact ⟨d1.toNat, by omega, by rw [hd.int]; congr 1; omega⟩
    wtm_at "v"
    refine ⟨by omega, by omega, ?_⟩
    refine s_lc_any (K := K) walk_r0 (sl_lt (by omega)) w3 (fun _ d => ∃ c, d = PyData.str ⟨#[c]⟩ ∧ c < 1114112) (fun _ _ => trivial) ?_ ?_
    · rintro D i x H4 H5 hD nz hi r4 w4 ⟨rfl, rfl⟩ F hF
      wtm_at "v"
      refine ⟨rfl, ?_⟩
      wtm_at "v"
      refine ⟨p, _, rfl, r4.pot hp3, by decide, by decide, fun H6 d6 r6 a6 b6 => ?_⟩
      refine s_ix_str (by decide +kernel) a6 (by rw [show (Str.ofString "abcdefghijklmnopqrstuvwxyz").length = 26 by decide +kernel]; omega) (fun c hc => ?_)
      exact hF _ _ _ r6 dat_str ⟨c, rfl, letter_ok (List.mem_of_getElem? hc)⟩
    · intro H4 v4 ds r4 hl hds hv4
      obtain ⟨ys, rfl, sum, yl, ok, len⟩ := word_of hl hds
      have w4 := w3.up r4
      have hp4 := r4.pot hp3
      refine s_join hv4 (by rw [sum, yl, show (Str.ofString "").length = 0 by decide +kernel]; omega) ?_
      generalize hz : Txt.join (Str.ofString "") ys = z
      rw [show Txt.join "" ys = z from hz] at ok len
      have lz : z.length ≤ 9 := by omega
      wtm_at "v"
      refine s_len_str (sl_of (by omega)) ?_
      wtm_at "v"
      refine ⟨p, _, rfl, hp4, by omega, by omega, fun H5 d5 r5 a5 b5 => ?_⟩
      have hp5 := r5.pot hp4
      wtm_at "v"
      refine ⟨p, _, rfl, hp5, by decide, by decide, fun H6 d6 r6 a6 b6 => ?_⟩
      refine s_ix_str (by decide +kernel) a6 (by rw [show (Str.ofString "AZ09 _-.,{`@\x5b").length = 13 by decide +kernel]; omega) (fun c hc => ?_)
      have hp6 := r6.pot hp5
      have okc : PyData.strOk ⟨#[c]⟩ = true := by
        refine ok_one ?_
        have : ∀ c ∈ (Str.ofString "AZ09 _-.,{`@\x5b").cps.toList, c < 1114112 := by decide +kernel
        exact this c (List.mem_of_getElem? hc)
      wtm_at "v"
      refine ⟨p, _, rfl, hp6, by decide, by decide, fun H7 d7 r7 a7 b7 => ?_⟩
      have rr := (((r123.trans r4).trans r5).trans r6).trans r7
      wtm_at "v"
      refine ite_d (fun h0 => ?_) (fun h0 => ?_)
      · wtm_at "v"
        refine s_sl_str (sl_of (by omega)) ?_
        wtm_at "v"
        have l1 : (cutS z none (some d5)).length + (cutS z (some d5) none).length ≤ 9 := by
          rw [len_cut, len_cut]
          have := HT.sIx_le z.length z.length (Nat.le_refl _) (some d5)
          have := HT.sIx_le z.length 0 (by omega) (some d5)
          have e : HT.sIx z.length z.length (some d5) = HT.sIx z.length 0 (some d5) := by
            rw [← Int.toNat_of_nonneg a5, HT.sIx_nat, HT.sIx_nat]
          simp only [HT.sIx_none]
          omega
        refine s_add_str (sl_of (by simp [Str.length] at *; omega)) ?_
        wtm_at "v"
        refine s_sl_str (sl_of (by omega)) ?_
        wtm_at "v"
        have l2 : (cutS z none (some d5) ++ ⟨#[c]⟩ ++ cutS z (some d5) none : Str).length ≤ 10 := by
          rw [len_app, len_app, show (⟨#[c]⟩ : Str).length = 1 from rfl]; omega
        refine s_add_str (sl_of (by rw [len_app] at l2; omega)) ?_
        exact q _ _ rr l2 (ok_app (ok_app (ok_cut ok) okc) (ok_cut ok))
      · wtm_at "v"
        exact q _ _ rr (by omega) ok
def sp__law_odd (K : PySem.W.Frag) : Sp := fun vs H Q _ => ∃ p Z, vs = [.ref p] ∧ Wd p Z H ∧ Pot p H ∧ ∀ H' v d, R p H H' → Dat K Z H' d v → Tame d 4 15 → Q v H'
theorem ok__law_odd (T : Tx K mg) : FnG P w K mg base 2 T.a__law_odd T.fd__law_odd ["_law_pot_here"] (sp__law_odd K) := by
  refine FnG.ok T.F__law_odd sc__law_odd (fun vs H Q E h => ?_) (fun cdv A outer s H vs Q E hg hr h => ?_)
  · obtain ⟨_, _, rfl, _, _, _⟩ := h
    rfl
  · obtain ⟨p, Z, rfl, w, hp, q⟩ := h
    refine ⟨_, pss_cons (ps_set (i := 1) sc__law_odd.nd rfl (by first | exact Or.inl rfl | exact Or.inr rfl) (pe_fn ((ok__law_draw T).at hg (hr.mono (by decide)) (b__law_draw T) .nil passN) rfl T.g__law_draw T.F__law_draw.kp (pa_cons (pv 0) (pa_cons (pe_op op_pow (pe_int) (pe_int)) pa_nil))))
    (pss_cons (ps_set (i := 2) sc__law_odd.nd rfl (by first | exact Or.inl rfl | exact Or.inr rfl) (pe_lst (pa_cons (pe_non) (pa_cons (pe_bl) (pa_cons (pe_bl) (pa_cons (pe_str) (pa_cons (pe_str) (pa_cons (pe_str) (pa_cons (pe_str) (pa_cons (pe_lst (pa_nil)) (pa_cons (pe_lst (pa_cons (pe_str) pa_nil)) (pa_cons (pe_tup (pa_nil)) (pa_cons (pe_tup (pa_cons (pe_str) pa_nil)) (pa_cons (pe_dnewK) (pa_cons (pe_disp (pps_cons (pe_str) (pe_int) (pps_nil)) (by rfl) (by rfl) (fun z => by cases z) (by decide)) (pa_cons (pe_int) (pa_cons (pe_un un_neg (pe_int)) (pa_cons (pe_op op_pow (pe_int) (pe_int)) pa_nil))))))))))))))))))
    (pss_cons (ps_set (i := 2) sc__law_odd.nd rfl (by first | exact Or.inl rfl | exact Or.inr rfl) (pe_op (kx_add (K := K) rfl) (pv 2) (pe_lst (pa_cons (pe_op (kx_add (K := K) rfl) (pe_op op_pow (pe_int) (pe_int)) (pe_int)) (pa_cons (pv 1) (pa_cons (pe_un un_neg (pv 1)) (pa_cons (pe_str) (pa_cons (pe_tup (pa_cons (pe_int) (pa_cons (pe_str) (pa_cons (pe_int) pa_nil)))) (pa_cons (pe_lst (pa_cons (pe_int) (pa_cons (pe_str) (pa_cons (pe_int) pa_nil)))) (pa_cons (pe_tup (pa_cons (pe_tup (pa_cons (pe_int) (pa_cons (pe_str) (pa_cons (pe_int) pa_nil)))) pa_nil)) pa_nil))))))))))
    (pss_one (ps_ret (pe_ix (kx_ix (K := K) rfl) (pv 2) (pe_fn ((ok__law_draw T).at hg (hr.mono (by decide)) (b__law_draw T) .nil passN) rfl T.g__law_draw T.F__law_draw.kp (pa_cons (pv 0) (pa_cons (pe_callB (kx_len (K := K) rfl) (by rfl) T.z_len bt_len (pa_cons (pv 2) pa_nil)) pa_nil))) (fun _ _ => rfl)))))), ?_⟩
    try dsimp only [cxg, cxOf, Cx.nox, Cx.wish]
    wtm_at "v"
    refine ⟨p, _, rfl, hp, by decide, by decide, fun H1 d1 r1 a1 b1 => ?_⟩
    rw [p60] at b1
    have hp1 := r1.pot hp
    have w1 := w.up r1
    wtm_at "v"
    refine s_newl K w1 datL_nil (by simp) (fun H2 v2 r2 h2 => ?_)
    have w2 := w1.up r2
    wtm_at "v"
    refine s_newl K w2 (datL_cons dat_str datL_nil) (by simp) (fun H3 v3 r3 h3 => ?_)
    have w3 := w2.up r3
    wtm_at "v"
    refine s_newt K w3 datL_nil (by simp) (fun H4 v4 r4 h4 => ?_)
    have w4 := w3.up r4
    wtm_at "v"
    refine s_newt K w4 (datL_cons dat_str datL_nil) (by simp) (fun H5 v5 r5 h5 => ?_)
    have w5 := w4.up r5
    wtm_at "v"
    refine s_dnew (K := K) w5 (fun H6 v6 r6 h6 => ?_)
    have w6 := w5.up r6
    wtm_at "v"
    refine s_disp1 (K := K) w6 (.inr "a") (fun _ => dat_int) (fun H7 v7 r7 h7 => ?_)
    have w7 := w6.up r7
    wtm_at "v"
    have r27 := r3.trans (r4.trans (r5.trans (r6.trans r7)))
    have r37 := r4.trans (r5.trans (r6.trans r7))
    have r47 := r5.trans (r6.trans r7)
    have r57 := r6.trans r7
    refine s_newl K w7 (datL_cons dat_non (datL_cons dat_bl (datL_cons dat_bl (datL_cons dat_str (datL_cons dat_str (datL_cons dat_str (datL_cons dat_str (datL_cons (h2.to w2 r27) (datL_cons (h3.to w3 r37) (datL_cons (h4.to w4 r47) (datL_cons (h5.to w5 r57) (datL_cons (h6.to w6 r7) (datL_cons h7 (datL_cons dat_int (datL_cons dat_int (datL_cons dat_int datL_nil)))))))))))))))) (by simp) (fun H8 v8 r8 h8 => ?_)
    have w8 := w7.up r8
    wtm_at "v"
    refine s_newt K w8 (datL_cons dat_int (datL_cons dat_str (datL_cons dat_int datL_nil))) (by simp) (fun H9 v9 r9 h9 => ?_)
    have w9 := w8.up r9
    wtm_at "v"
    refine s_newl K w9 (datL_cons dat_int (datL_cons dat_str (datL_cons dat_int datL_nil))) (by simp) (fun H10 v10 r10 h10 => ?_)
    have w10 := w9.up r10
    wtm_at "v"
    refine s_newt K w10 (datL_cons dat_int (datL_cons dat_str (datL_cons dat_int datL_nil))) (by simp) (fun H11 v11 r11 h11 => ?_)
    have w11 := w10.up r11
    wtm_at "v"
    refine s_newt K w11 (datL_cons h11 datL_nil) (by simp) (fun H12 v12 r12 h12 => ?_)
    have w12 := w11.up r12
    wtm_at "v"
    refine s_newl K w12 (datL_cons dat_int (datL_cons dat_int (datL_cons dat_int (datL_cons dat_str (datL_cons (h9.to w9 (r10.trans (r11.trans r12))) (datL_cons (h10.to w10 (r11.trans r12)) (datL_cons h12 datL_nil))))))) (by simp) (fun H13 v13 r13 h13 => ?_)
    have w13 := w12.up r13
    have r8d := r9.trans (r10.trans (r11.trans (r12.trans r13)))
    refine s_add_lst w13 (h8.to w8 r8d) h13 (sl_of (by simp)) (fun H14 v14 r14 h14 => ?_)
    have w14 := w13.up r14
    have r1d := r1.trans (r2.trans (r27.trans (r8.trans (r8d.trans r14))))
    have hp14 := r1d.pot hp
    wtm_at "v"
    refine s_len_lst h14 ?_
    wtm_at "v"
    refine ⟨p, _, rfl, hp14, by simp, by simp, fun H15 d15 r15 a15 b15 => ?_⟩
    refine s_pick (h14.to w14 r15) a15 b15 (fun v d hm hd => ?_)
    refine q _ _ _ (r1d.trans r15) hd ?_
    simp only [List.mem_append, List.mem_cons, List.not_mem_nil, or_false] at hm
    rcases hm with (rfl | rfl | rfl | rfl | rfl | rfl | rfl | rfl | rfl | rfl | rfl | rfl | rfl | rfl | rfl | rfl) | (rfl | rfl | rfl | rfl | rfl | rfl | rfl) <;>
      first
      | exact ⟨by decide +kernel, by decide +kernel, by decide +kernel, by decide +kernel, by decide +kernel⟩
      | exact (tame60 a1 (by omega)).mono (by decide) (by decide)
      | exact (tameN60 a1 (by omega)).mono (by decide) (by decide)
def sp__law_is_word (K : PySem.W.Frag) : Sp := fun vs H Q _ => ∃ p Z v d, vs = [v] ∧ Wd p Z H ∧ Dat K Z H d v ∧ Tame d 40 50000 ∧ ∀ H', R p H H' → Q (.bl (isName d)) H'
theorem ok__law_is_word (T : Tx K mg) : FnG P w K mg base 1 T.a__law_is_word T.fd__law_is_word ["_law_piece"] (sp__law_is_word K) := by
  refine FnG.ok T.F__law_is_word sc__law_is_word (fun vs H Q E h => ?_) (fun cdv A outer s H vs Q E hg hr h => ?_)
  · obtain ⟨_, _, _, _, rfl, _, _, _, _⟩ := h
    rfl
  · obtain ⟨p, Z, v, d, rfl, w, hd, t, q⟩ := h
    refine ⟨_, pss_cons (ps_if (PW.pt (pw_or (pt_not (pt_val (pe_callB (kx_isi (K := K) rfl) (by rfl) T.z_isinstance bt_isinstance (pa_cons (pv 0) (pa_cons (pe_bltn (v := .ty "str") (by rfl) T.z_str bt_str rfl) pa_nil))))) (pw_or (pt_cmpR op_lt (pe_callB (kx_len (K := K) rfl) (by rfl) T.z_len bt_len (pa_cons (pv 0) pa_nil)) (pe_int) (nomark _)) (pw_or1 (pt_cmpR op_gt (pe_callB (kx_len (K := K) rfl) (by rfl) T.z_len bt_len (pa_cons (pv 0) pa_nil)) (pe_int) (nomark _)))))) (pss_one (ps_ret (pe_bl))) pss_nil)
    (pss_one (ps_ret (pe_cmpR (kx_eq (K := K) rfl hr) (pe_lc (own := [("_law_sign", 1)]) (g := gName 1)  rfl sc__law_is_word.nd (pi_str (pv 0)) (blkOk_by (own := [("_law_sign", 1)]) (N := N__law_is_word) (sc := defScope st__law_is_word) (by decide +kernel)) (fun _ _ _ _ _ => pg_name (i := 1) sc__law_is_word.nd rfl (by first | exact Or.inl rfl | exact Or.inr rfl)) (fun _ _ _ _ _ => pts_one (pt_cmpR (kx_notIn (K := K) rfl) (pv 1) (pe_str) rfl)) (fun _ _ _ _ _ => pv 1)) (pe_lst (pa_nil)) (nomark _)))), ?_⟩
    try dsimp only [cxg, cxOf, Cx.nox, Cx.wish]
    wtm_at "v"
    refine s_isi hd (by simp) ?_
    wtm_at "v"
    refine ite_nb (fun h => ?_) (fun h => ?_)
    · wtm_at "v"
      rw [← isName_no h]
      exact q H (R.refl _ _)
    · obtain ⟨z, rfl⟩ := isD_str h
      have ez := hd.str
      subst ez
      have hz := t.strlen
      have ho : PyData.strOk z = true := by have := t.lay; simpa only [PC.lay] using this
      wtm_at "v"
      refine s_len_str (sl_of hz) ?_
      wtm_at "v"
      refine ite_d (fun h1 => ?_) (fun h1 => ?_)
      · wtm_at "v"
        have e : isName (.str z) = false := by simp [isName]; omega
        rw [← e]
        exact q H (R.refl _ _)
      · wtm_at "v"
        refine s_len_str (sl_of hz) ?_
        wtm_at "v"
        refine ite_d (fun h2 => ?_) (fun h2 => ?_)
        · wtm_at "v"
          have e : isName (.str z) = false := by simp [isName]; omega
          rw [← e]
          exact q H (R.refl _ _)
        · wtm_at "v"
          refine s_lc (K := K) walk_str (sl_lt (show z.cps.size ≤ 50000 from hz)) w (fun i ds => ds = ((z.cps.toList.take i).filter (fun c => !decide (c ∈ letters.cps.toList))).map fun c => PyData.str ⟨#[c]⟩) (by simp) (fun _ _ => trivial) ?_ ?_
          · rintro D i x H1 H2 ds hD nz hi rfl hle r w' ⟨rfl, c, hc, rfl⟩ F N hF hN
            have ec : z.cps.toList[i]? = some c := by simpa using hc
            have et : z.cps.toList.take (i + 1) = z.cps.toList.take i ++ [c] := by
              rw [List.take_add_one, ec]; rfl
            wtm_at "v"
            refine ⟨rfl, ?_⟩
            wtm_at "v"
            refine ite_nd (fun h3 => ?_) (fun h3 => ?_)
            · wtm_at "v"
              refine hF _ _ _ (R.refl _ _) dat_str ?_
              have : ¬ c ∈ letters.cps.toList := h3
              rw [et, List.filter_append, List.map_append, List.filter_cons_of_pos (by rw [decide_eq_false this]; rfl)]
              rfl
            · refine hN _ (R.refl _ _) ?_
              have : c ∈ letters.cps.toList := h3
              rw [et, List.filter_append, List.map_append, List.filter_cons_of_neg (by rw [decide_eq_true this]; decide)]
              simp
          · rintro H1 v1 ds r1 rfl hle hv
            rw [List.take_of_length_le (by simp)] at hv
            wtm_at "v"
            have w1 := w.up r1
            refine s_newl K w1 datL_nil (by simp) (fun H2 v2 r2 hv2 => ?_)
            have w2 := w1.up r2
            refine s_eq_dat w2.one (hv.to w1 r2) hv2 (shaped_strs _ (fun c hc => ok_iff.mp ho c (List.mem_filter.mp hc).1)) (by decide) ?_
            rw [eqv_nil]
            have a : decide (1 ≤ z.length) = true := decide_eq_true (by omega)
            have b : decide (z.length ≤ 8) = true := decide_eq_true (by omega)
            have e : isName (.str z) = (List.map (fun c => PyData.str ⟨#[c]⟩) (z.cps.toList.filter (fun c => !decide (c ∈ letters.cps.toList)))).isEmpty := by
              simp only [isName, a, b, Bool.true_and]
              rw [Bool.eq_iff_iff, List.all_eq_true, List.isEmpty_iff, List.map_eq_nil_iff, List.filter_eq_nil_iff]
              simp
            rw [← e]
            exact q _ (r1.trans r2)
def sp__law_is_moment (K : PySem.W.Frag) : Sp := fun vs H Q _ => ∃ p Z v d, vs = [v] ∧ Wd p Z H ∧ Dat K Z H d v ∧ ∀ H', R p H H' → Q (.bl (isTime d)) H'
theorem ok__law_is_moment (T : Tx K mg) : FnG P w K mg base 1 T.a__law_is_moment T.fd__law_is_moment ["_law_piece"] (sp__law_is_moment K) := by
  refine FnG.ok T.F__law_is_moment sc__law_is_moment (fun vs H Q E h => ?_) (fun cdv A outer s H vs Q E hg hr h => ?_)
  · obtain ⟨_, _, _, _, rfl, _, _, _⟩ := h
    rfl
  · obtain ⟨p, Z, v, d, rfl, w, hd, q⟩ := h
    refine ⟨_, pss_one (ps_ret (pe_and (pe_callB (kx_isi (K := K) rfl) (by rfl) T.z_isinstance bt_isinstance (pa_cons (pv 0) (pa_cons (pe_bltn (v := .ty "int") (by rfl) T.z_int bt_int rfl) pa_nil))) (pe_and (pe_not (pe_callB (kx_isi (K := K) rfl) (by rfl) T.z_isinstance bt_isinstance (pa_cons (pv 0) (pa_cons (pe_bltn (v := .ty "bool") (by rfl) T.z_bool bt_bool rfl) pa_nil)))) (pe_one (pe_chain op_le op_le (pe_int) (pv 0) (pe_op op_pow (pe_int) (pe_int))))))), ?_⟩
    try dsimp only [cxg, cxOf, Cx.nox, Cx.wish]
    wtm_at "v"
    refine s_isi hd (by simp) ?_
    wtm_at "v"
    refine ite_b (fun h => ?_) (fun h => ?_)
    · wtm_at "v"
      refine s_isi hd (by simp) ?_
      wtm_at "v"
      refine ite_nb (fun h2 => ?_) (fun h2 => ?_)
      · obtain ⟨i, rfl⟩ := int_yes h h2
        have ez := hd.int
        subst ez
        wtm_at "v"
        refine ite_d (fun h3 => ?_) (fun h3 => ?_)
        · wtm_at "v"
          have e : isTime (.int i) = decide (i ≤ 10 ^ Int.toNat 18) := by simp [isTime, h3]
          rw [← e]
          exact q H (R.refl _ _)
        · have e : isTime (.int i) = false := by simp [isTime]; omega
          rw [← e]
          exact q H (R.refl _ _)
      · rw [← isTime_no2 h2]
        exact q H (R.refl _ _)
    · rw [← isTime_no h]
      exact q H (R.refl _ _)
def sp__law_is_mark (K : PySem.W.Frag) : Sp := fun vs H Q _ => ∃ p Z v d, vs = [v] ∧ Wd p Z H ∧ Dat K Z H d v ∧ Tame d 40 50000 ∧ ∀ H', R p H H' → Q (.bl (isStamp d)) H'
theorem ok__law_is_mark (T : Tx K mg) : FnG P w K mg base 2 T.a__law_is_mark T.fd__law_is_mark ["_law_piece"] (sp__law_is_mark K) := by
  refine FnG.ok T.F__law_is_mark sc__law_is_mark (fun vs H Q E h => ?_) (fun cdv A outer s H vs Q E hg hr h => ?_)
  · obtain ⟨_, _, _, _, rfl, _, _, _, _⟩ := h
    rfl
  · obtain ⟨p, Z, v, d, rfl, w, hd, t, q⟩ := h
    refine ⟨_, pss_cons (ps_if (PW.pt (pw_or (pt_not (pt_val (pe_callB (kx_isi (K := K) rfl) (by rfl) T.z_isinstance bt_isinstance (pa_cons (pv 0) (pa_cons (pe_bltn (v := .ty "tuple") (by rfl) T.z_tuple bt_tuple rfl) pa_nil))))) (pw_or1 (pt_cmpR (kx_ne (K := K) rfl hr) (pe_callB (kx_len (K := K) rfl) (by rfl) T.z_len bt_len (pa_cons (pv 0) pa_nil)) (pe_int) (nomark _))))) (pss_one (ps_ret (pe_bl))) pss_nil)
    (pss_one (ps_ret (pe_and (pe_fn ((ok__law_is_moment T).at hg (hr.mono (by decide)) (b__law_is_moment T) .nil passN) rfl T.g__law_is_moment T.F__law_is_moment.kp (pa_cons (pe_ix (kx_ix (K := K) rfl) (pv 0) (pe_int) (fun _ _ => rfl)) pa_nil)) (pe_and (pe_fn ((ok__law_is_word T).at hg (hr.mono (by decide)) (b__law_is_word T) .nil passN) rfl T.g__law_is_word T.F__law_is_word.kp (pa_cons (pe_ix (kx_ix (K := K) rfl) (pv 0) (pe_int) (fun _ _ => rfl)) pa_nil)) (pe_one (pe_fn ((ok__law_is_moment T).at hg (hr.mono (by decide)) (b__law_is_moment T) .nil passN) rfl T.g__law_is_moment T.F__law_is_moment.kp (pa_cons (pe_ix (kx_ix (K := K) rfl) (pv 0) (pe_int) (fun _ _ => rfl)) pa_nil))))))), ?_⟩
    try dsimp only [cxg, cxOf, Cx.nox, Cx.wish]
    wtm_at "v"
    refine s_isi hd (by simp) ?_
    wtm_at "v"
    refine ite_nb (fun h => ?_) (fun h => ?_)
    · wtm_at "v"
      rw [← isStamp_no h]
      exact q H (R.refl _ _)
    · obtain ⟨ds, rfl⟩ := isD_tup h
      wtm_at "v"
      refine s_len_tup hd ?_
      wtm_at "v"
      refine ite_nd (fun h1 => ?_) (fun h1 => ?_)
      · wtm_at "v"
        rw [← isStamp_len (ds := ds) (by omega)]
        exact q H (R.refl _ _)
      · obtain ⟨a, b, c, rfl⟩ := three (ds := ds) (by omega)
        have tL := t.tupL
        wtm_at "v"
        refine s_ix_tup hd (by decide) (by simp) (fun va a' ea ha => ?_)
        obtain rfl : a = a' := by simpa using ea
        wtm_at "v"
        refine ⟨p, Z, va, a, rfl, w, ha, fun H1 r1 => ?_⟩
        wtm_at "v"
        refine ite_b (fun h2 => ?_) (fun h2 => ?_)
        · have w1 := w.up r1
          have hd1 := hd.to w r1
          wtm_at "v"
          refine s_ix_tup hd1 (by decide) (by simp) (fun vb b' eb hb => ?_)
          obtain rfl : b = b' := by simpa using eb
          wtm_at "v"
          refine ⟨p, Z, vb, b, rfl, w1, hb, tL.get (by simp), fun H2 r2 => ?_⟩
          wtm_at "v"
          refine ite_b (fun h3 => ?_) (fun h3 => ?_)
          · have w2 := w1.up r2
            have hd2 := hd1.to w1 r2
            wtm_at "v"
            refine s_ix_tup hd2 (by decide) (by simp) (fun vc c' ec hc => ?_)
            obtain rfl : c = c' := by simpa using ec
            wtm_at "v"
            refine ⟨p, Z, vc, c, rfl, w2, hc, fun H3 r3 => ?_⟩
            have e : isStamp (.tuple [a, b, c]) = isTime c := by simp [isStamp, h2, h3]
            rw [← e]
            exact q _ ((r1.trans r2).trans r3)
          · have e : isStamp (.tuple [a, b, c]) = false := by simp [isStamp, h2, h3]
            rw [← e]
            exact q _ (r1.trans r2)
        · have e : isStamp (.tuple [a, b, c]) = false := by simp [isStamp, h2]
          rw [← e]
          exact q _ r1
def sp__law_bent (K : PySem.W.Frag) : Sp := fun vs H Q _ => ∃ p Z v a b c, vs = [.ref p, v] ∧ Wd p Z H ∧ Pot p H ∧ Dat K Z H (.tuple [a, b, c]) v ∧ TameL [a, b, c] 1 15 ∧ ∀ H' v d, R p H H' → Dat K Z H' d v → Tame d 5 112 → Q v H'
theorem ok__law_bent (T : Tx K mg) : FnG P w K mg base 3 T.a__law_bent T.fd__law_bent ["_law_pot_here", "_law_mark_here"] (sp__law_bent K) := by
  refine FnG.ok T.F__law_bent sc__law_bent (fun vs H Q E h => ?_) (fun cdv A outer s H vs Q E hg hr h => ?_)
  · obtain ⟨_, _, _, _, _, _, rfl, _, _, _, _, _⟩ := h
    rfl
  · obtain ⟨p, Z, v, a, b, c, rfl, w, hp, hv, t, q⟩ := h
    refine ⟨_, pss_cons (ps_par (i := 2) (j := 3) (by rfl) sc__law_bent.nd rfl rfl (by decide) rfl rfl (pa_cons (pe_fn ((ok__law_draw T).at hg (hr.mono (by decide)) (b__law_draw T) .nil passN) rfl T.g__law_draw T.F__law_draw.kp (pa_cons (pv 0) (pa_cons (pe_int) pa_nil))) (pa_cons (pe_fn ((ok__law_draw T).at hg (hr.mono (by decide)) (b__law_draw T) .nil passN) rfl T.g__law_draw T.F__law_draw.kp (pa_cons (pv 0) (pa_cons (pe_int) pa_nil))) pa_nil)) (by rfl))
    (pss_cons (ps_if (pt_cmpR (kx_eq (K := K) rfl hr) (pv 2) (pe_int) (nomark _)) (pss_one (ps_ret (pe_callTy (kx_list (K := K) rfl) (by rfl) T.z_list bt_list (pa_cons (pv 1) pa_nil)))) pss_nil)
    (pss_cons (ps_if (pt_cmpR (kx_eq (K := K) rfl hr) (pv 2) (pe_int) (nomark _)) (pss_one (ps_ret (pe_op (kx_add (K := K) rfl) (pe_slice (kx_sl (K := K) rfl) (pv 1) po_none (po_some (pv 3))) (pe_slice (kx_sl (K := K) rfl) (pv 1) (po_some (pe_op (kx_add (K := K) rfl) (pv 3) (pe_int))) po_none)))) pss_nil)
    (pss_cons (ps_if (pt_cmpR (kx_eq (K := K) rfl hr) (pv 2) (pe_int) (nomark _)) (pss_one (ps_ret (pe_op (kx_add (K := K) rfl) (pe_op (kx_add (K := K) rfl) (pe_slice (kx_sl (K := K) rfl) (pv 1) po_none (po_some (pv 3))) (pe_tup (pa_cons (pe_ix (kx_ix (K := K) rfl) (pv 1) (pv 3) (fun _ _ => rfl)) pa_nil))) (pe_slice (kx_sl (K := K) rfl) (pv 1) (po_some (pv 3)) po_none)))) pss_nil)
    (pss_cons (ps_if (pt_cmpR (kx_eq (K := K) rfl hr) (pv 2) (pe_int) (nomark _)) (pss_one (ps_ret (pe_op (kx_add (K := K) rfl) (pe_op (kx_add (K := K) rfl) (pe_slice (kx_sl (K := K) rfl) (pv 1) po_none (po_some (pv 3))) (pe_tup (pa_cons (pe_ix (kx_ix (K := K) rfl) (pe_lst (pa_cons (pe_bl) (pa_cons (pe_bl) pa_nil))) (pe_fn ((ok__law_draw T).at hg (hr.mono (by decide)) (b__law_draw T) .nil passN) rfl T.g__law_draw T.F__law_draw.kp (pa_cons (pv 0) (pa_cons (pe_int) pa_nil))) (fun _ _ => rfl)) pa_nil))) (pe_slice (kx_sl (K := K) rfl) (pv 1) (po_some (pe_op (kx_add (K := K) rfl) (pv 3) (pe_int))) po_none)))) pss_nil)
    (pss_one (ps_ret (pe_op (kx_add (K := K) rfl) (pe_op (kx_add (K := K) rfl) (pe_slice (kx_sl (K := K) rfl) (pv 1) po_none (po_some (pv 3))) (pe_tup (pa_cons (pe_fn ((ok__law_odd T).at hg (hr.mono (by decide)) (b__law_odd T) .nil passN) rfl T.g__law_odd T.F__law_odd.kp (pa_cons (pv 0) pa_nil)) pa_nil))) (pe_slice (kx_sl (K := K) rfl) (pv 1) (po_some (pe_op (kx_add (K := K) rfl) (pv 3) (pe_int))) po_none)))))))), ?_⟩
    try dsimp only [cxg, cxOf, Cx.nox, Cx.wish]
    have t4 : ∀ d ∈ [a, b, c], Tame d 4 15 := fun d hd => (t.get hd).mono (by decide) (by decide)
    wtm_at "v"
    refine ⟨p, _, rfl, hp, by decide, by decide, fun H1 d1 r1 a1 b1 => ?_⟩
    have hp1 := r1.pot hp
    wtm_at "v"
    refine ⟨p, _, rfl, hp1, by decide, by decide, fun H2 d2 r2 a2 b2 => ?_⟩
    have hp2 := r2.pot hp1
    have r12 := r1.trans r2
    have w2 := w.up r12
    have h2 := hv.to w r12
    wtm_at "v"
    refine ite_d (fun c0 => ?_) (fun c0 => ?_)
    · wtm_at "v"
      refine s_list_tup w2 h2 (fun H3 v3 r3 h3 => ?_)
      exact q _ _ _ (r12.trans r3) h3 ((tame_lst t).mono (by decide) (by decide))
    wtm_at "v"
    refine ite_d (fun c0 => ?_) (fun c0 => ?_)
    · wtm_at "v"
      refine s_sl_tup w2 h2 (fun H3 v3 r3 h3 => ?_)
      have w3 := w2.up r3
      wtm_at "v"
      refine s_sl_tup w3 (h2.to w2 r3) (fun H4 v4 r4 h4 => ?_)
      have w4 := w3.up r4
      have l3 : (sliD [a, b, c] none (some d2)).length ≤ 3 := sliD_len
      have l4 : (sliD [a, b, c] (some (d2 + 1)) none).length ≤ 3 := sliD_len
      refine s_add_tup w4 (h3.to w3 r4) h4 (sl_of (by omega)) (fun H5 v5 r5 h5 => ?_)
      refine q _ _ _ (r12.trans (r3.trans (r4.trans r5))) h5 (tame7 (fun d hd => ?_) (by rw [List.length_append]; omega))
      rcases List.mem_append.mp hd with z | z
      · exact t4 d (sliD_sub z)
      · exact t4 d (sliD_sub z)
    wtm_at "v"
    refine ite_d (fun c0 => ?_) (fun c0 => ?_)
    · wtm_at "v"
      refine s_sl_tup w2 h2 (fun H3 v3 r3 h3 => ?_)
      have w3 := w2.up r3
      have h23 := h2.to w2 r3
      wtm_at "v"
      refine s_ix_tup h23 a2 (by simpa using b2) (fun u e he hu => ?_)
      wtm_at "v"
      refine s_newt K w3 (datL_cons hu datL_nil) (by simp) (fun H4 v4 r4 h4 => ?_)
      have w4 := w3.up r4
      have l3 : (sliD [a, b, c] none (some d2)).length ≤ 3 := sliD_len
      have l4 : (sliD [a, b, c] (some d2) none).length ≤ 3 := sliD_len
      refine s_add_tup w4 (h3.to w3 r4) h4 (sl_of (by simp; omega)) (fun H5 v5 r5 h5 => ?_)
      have w5 := w4.up r5
      wtm_at "v"
      refine s_sl_tup w5 (h23.to w3 (r4.trans r5)) (fun H6 v6 r6 h6 => ?_)
      have w6 := w5.up r6
      refine s_add_tup w6 (h5.to w5 r6) h6 (sl_of (by simp; omega)) (fun H7 v7 r7 h7 => ?_)
      refine q _ _ _ (r12.trans (r3.trans (r4.trans (r5.trans (r6.trans r7))))) h7 (tame7 (fun d hd => ?_) (by simp; omega))
      rcases List.mem_append.mp hd with z | z
      · rcases List.mem_append.mp z with z | z
        · exact t4 d (sliD_sub z)
        · rw [List.mem_singleton.mp z]
          exact t4 e (List.mem_of_getElem? he)
      · exact t4 d (sliD_sub z)
    wtm_at "v"
    refine ite_d (fun c0 => ?_) (fun c0 => ?_)
    · wtm_at "v"
      refine s_sl_tup w2 h2 (fun H3 v3 r3 h3 => ?_)
      have w3 := w2.up r3
      have h23 := h2.to w2 r3
      have hp3 := r3.pot hp2
      wtm_at "v"
      refine s_newl K w3 (datL_cons dat_bl (datL_cons dat_bl datL_nil)) (by simp) (fun H4 v4 r4 h4 => ?_)
      have w4 := w3.up r4
      wtm_at "v"
      refine ⟨p, _, rfl, r4.pot hp3, by decide, by decide, fun H5 d5 r5 a5 b5 => ?_⟩
      have w5 := w4.up r5
      refine s_pick (h4.to w4 r5) a5 (by simpa using b5) (fun u e he hu => ?_)
      have te : Tame e 4 15 := by
        simp only [List.mem_cons, List.not_mem_nil, or_false] at he
        rcases he with rfl | rfl <;> exact tame_bool.mono (by decide) (by decide)
      wtm_at "v"
      refine s_newt K w5 (datL_cons hu datL_nil) (by simp) (fun H6 v6 r6 h6 => ?_)
      have w6 := w5.up r6
      have r36 := r4.trans (r5.trans r6)
      have l3 : (sliD [a, b, c] none (some d2)).length ≤ 3 := sliD_len
      have l4 : (sliD [a, b, c] (some (d2 + 1)) none).length ≤ 3 := sliD_len
      refine s_add_tup w6 (h3.to w3 r36) h6 (sl_of (by simp; omega)) (fun H7 v7 r7 h7 => ?_)
      have w7 := w6.up r7
      wtm_at "v"
      refine s_sl_tup w7 (h23.to w3 (r36.trans r7)) (fun H8 v8 r8 h8 => ?_)
      have w8 := w7.up r8
      refine s_add_tup w8 (h7.to w7 r8) h8 (sl_of (by simp; omega)) (fun H9 v9 r9 h9 => ?_)
      refine q _ _ _ (r12.trans (r3.trans (r36.trans (r7.trans (r8.trans r9))))) h9 (tame7 (fun d hd => ?_) (by simp; omega))
      rcases List.mem_append.mp hd with z | z
      · rcases List.mem_append.mp z with z | z
        · exact t4 d (sliD_sub z)
        · rw [List.mem_singleton.mp z]
          exact te
      · exact t4 d (sliD_sub z)
    · wtm_at "v"
      refine s_sl_tup w2 h2 (fun H3 v3 r3 h3 => ?_)
      have w3 := w2.up r3
      have h23 := h2.to w2 r3
      have hp3 := r3.pot hp2
      wtm_at "v"
      refine ⟨p, Z, rfl, w3, hp3, fun H5 u e r5 hu te => ?_⟩
      have w5 := w3.up r5
      wtm_at "v"
      refine s_newt K w5 (datL_cons hu datL_nil) (by simp) (fun H6 v6 r6 h6 => ?_)
      have w6 := w5.up r6
      have r36 := r5.trans r6
      have l3 : (sliD [a, b, c] none (some d2)).length ≤ 3 := sliD_len
      have l4 : (sliD [a, b, c] (some (d2 + 1)) none).length ≤ 3 := sliD_len
      refine s_add_tup w6 (h3.to w3 r36) h6 (sl_of (by simp; omega)) (fun H7 v7 r7 h7 => ?_)
      have w7 := w6.up r7
      wtm_at "v"
      refine s_sl_tup w7 (h23.to w3 (r36.trans r7)) (fun H8 v8 r8 h8 => ?_)
      have w8 := w7.up r8
      refine s_add_tup w8 (h7.to w7 r8) h8 (sl_of (by simp; omega)) (fun H9 v9 r9 h9 => ?_)
      refine q _ _ _ (r12.trans (r3.trans (r36.trans (r7.trans (r8.trans r9))))) h9 (tame7 (fun d hd => ?_) (by simp; omega))
      rcases List.mem_append.mp hd with z | z
      · rcases List.mem_append.mp z with z | z
        · exact t4 d (sliD_sub z)
        · rw [List.mem_singleton.mp z]
          exact te
      · exact t4 d (sliD_sub z)
def sp__law_right (K : PySem.W.Frag) : Sp := fun vs H Q _ => ∃ p Z v d, vs = [v] ∧ Wd p Z H ∧ Dat K Z H d v ∧ Tame d 30 150 ∧ ∀ H', R p H H' → Q (.bl true) H'
theorem ok__law_right (T : Tx K mg) : FnG P w K mg base 3 T.a__law_right T.fd__law_right ["_law_piece"] (sp__law_right K) := by
  refine FnG.ok T.F__law_right sc__law_right (fun vs H Q E h => ?_) (fun cdv A outer s H vs Q E hg hr h => ?_)
  · obtain ⟨_, _, _, _, rfl, _, _, _, _⟩ := h
    rfl
  · obtain ⟨p, Z, v, d, rfl, w, hd, t, q⟩ := h
    refine ⟨_, pss_cons (ps_set (i := 1) sc__law_right.nd rfl (by first | exact Or.inl rfl | exact Or.inr rfl) (pe_callB (kx_repr (K := K) rfl hg hr) (by rfl) T.z_repr bt_repr (pa_cons (pv 0) pa_nil)))
    (pss_cons (ps_set (i := 2) sc__law_right.nd rfl (by first | exact Or.inl rfl | exact Or.inr rfl) (pe_lst (pa_cons (pe_fn ((ok__law_is_word T).at hg (hr.mono (by decide)) (b__law_is_word T) .nil passN) rfl T.g__law_is_word T.F__law_is_word.kp (pa_cons (pv 0) pa_nil)) (pa_cons (pe_fn ((ok__law_is_moment T).at hg (hr.mono (by decide)) (b__law_is_moment T) .nil passN) rfl T.g__law_is_moment T.F__law_is_moment.kp (pa_cons (pv 0) pa_nil)) (pa_cons (pe_fn ((ok__law_is_mark T).at hg (hr.mono (by decide)) (b__law_is_mark T) .nil passN) rfl T.g__law_is_mark T.F__law_is_mark.kp (pa_cons (pv 0) pa_nil)) pa_nil)))))
    (pss_cons (ps_for PassesOwn.never rfl (pi_range1 rfl T.z_range (pa_cons (pe_int) pa_nil)) (pg_name (i := 3) sc__law_right.nd rfl (by first | exact Or.inl rfl | exact Or.inr rfl))
      (pss_one (ps_if (pt_cmpR (kx_ne (K := K) rfl hr) (pe_callB (kx_repr (K := K) rfl hg hr) (by rfl) T.z_repr bt_repr (pa_cons (pe_lst (pa_cons (pe_fn ((ok_is_name T).at hg (hr.mono (by decide)) (b_is_name T) .nil passN) rfl T.g_is_name T.F_is_name.kp (pa_cons (pv 0) pa_nil)) (pa_cons (pe_fn ((ok_is_time T).at hg (hr.mono (by decide)) (b_is_time T) .nil passN) rfl T.g_is_time T.F_is_time.kp (pa_cons (pv 0) pa_nil)) (pa_cons (pe_fn ((ok_is_stamp T).at hg (hr.mono (by decide)) (b_is_stamp T) .nil passN) rfl T.g_is_stamp T.F_is_stamp.kp (pa_cons (pv 0) pa_nil)) pa_nil)))) pa_nil)) (pe_callB (kx_repr (K := K) rfl hg hr) (by rfl) T.z_repr bt_repr (pa_cons (pv 2) pa_nil)) (nomark _)) (pss_one (ps_ret (pe_bl))) pss_nil)))
    (pss_one (ps_ret (pe_cmpR (kx_eq (K := K) rfl hr) (pe_callB (kx_repr (K := K) rfl hg hr) (by rfl) T.z_repr bt_repr (pa_cons (pe_lst (pa_cons (pe_fnK0 ((ok_is_name T).atK hg (hr.mono (by decide)) (kb_is_name__0_thing T) passN) rfl T.g_is_name T.F_is_name.kp (pk_cons (pv 0) pk_nil)) (pa_cons (pe_fnK0 ((ok_is_time T).atK hg (hr.mono (by decide)) (kb_is_time__0_thing T) passN) rfl T.g_is_time T.F_is_time.kp (pk_cons (pv 0) pk_nil)) (pa_cons (pe_fnK0 ((ok_is_stamp T).atK hg (hr.mono (by decide)) (kb_is_stamp__0_thing T) passN) rfl T.g_is_stamp T.F_is_stamp.kp (pk_cons (pv 0) pk_nil)) (pa_cons (pv 1) pa_nil))))) pa_nil)) (pe_callB (kx_repr (K := K) rfl hg hr) (by rfl) T.z_repr bt_repr (pa_cons (pe_op (kx_add (K := K) rfl) (pv 2) (pe_lst (pa_cons (pe_callB (kx_repr (K := K) rfl hg hr) (by rfl) T.z_repr bt_repr (pa_cons (pv 0) pa_nil)) pa_nil))) pa_nil)) (nomark _)))))), ?_⟩
    try dsimp only [cxg, cxOf, Cx.nox, Cx.wish]
    have t4 : Tame d 40 50000 := t.mono (by decide) (by decide)
    have ts : TameL [PyData.bool (isName d), .bool (isTime d), .bool (isStamp d)] 1 3 :=
      (tameL_cons tame_bool (tameL_cons tame_bool (tameL_cons tame_bool (tameL_nil.mono (Nat.zero_le 1) (Nat.le_refl _))))).mono (Nat.le_refl _) (by decide)
    have tl : Tame (.list [PyData.bool (isName d), .bool (isTime d), .bool (isStamp d)]) 40 50000 := (tame_lst ts).mono (by decide) (by decide)
    have tsh : Tame (.str d.shown) 40 49000 := t.text.mono (by decide) (by decide)
    wtm_at "v"
    refine s_repr w.one hd t4 ?_
    wtm_at "v"
    refine ⟨p, Z, v, d, rfl, w, hd, t4, fun H1 r1 => ?_⟩
    have w1 := w.up r1
    have hd1 := hd.to w r1
    wtm_at "v"
    refine ⟨p, Z, v, d, rfl, w1, hd1, fun H2 r2 => ?_⟩
    have w2 := w1.up r2
    have hd2 := hd1.to w1 r2
    wtm_at "v"
    refine ⟨p, Z, v, d, rfl, w2, hd2, t4, fun H3 r3 => ?_⟩
    have w3 := w2.up r3
    have hd3 := hd2.to w2 r3
    wtm_at "v"
    refine s_newl K w3 (datL_cons dat_bl (datL_cons dat_bl (datL_cons dat_bl datL_nil))) (by simp) (fun H4 due r4 h4 => ?_)
    have w4 := w3.up r4
    have hd4 := hd3.to w3 r4
    have r14 := r1.trans (r2.trans (r3.trans r4))
    wtm_at "v"
    refine ⟨by decide, by decide, ?_⟩
    refine s_forI walk_r0 (fun i σ H' => (∃ y, σ = [some v, some (.str d.shown), some due, y]) ∧ R p H4 H') ⟨⟨none, rfl⟩, R.refl _ _⟩ (fun _ _ _ _ _ => trivial) ?_ ?_
    · rintro i x σ H5 H6 hi ⟨⟨y, rfl⟩, r5⟩ ⟨rfl, rfl⟩
      have w5 := w4.up r5
      have hd5 := hd4.to w4 r5
      have h5 := h4.to w4 r5
      wtm_at "v"
      refine ⟨p, Z, v, d, rfl, w5, hd5, t4, fun H7 r7 => ?_⟩
      have w7 := w5.up r7
      have hd7 := hd5.to w5 r7
      wtm_at "v"
      refine ⟨p, Z, v, d, rfl, w7, hd7, fun H8 r8 => ?_⟩
      have w8 := w7.up r8
      have hd8 := hd7.to w7 r8
      wtm_at "v"
      refine ⟨p, Z, v, d, rfl, w8, hd8, t4, fun H9 r9 => ?_⟩
      have w9 := w8.up r9
      wtm_at "v"
      refine s_newl K w9 (datL_cons dat_bl (datL_cons dat_bl (datL_cons dat_bl datL_nil))) (by simp) (fun H10 u r10 h10 => ?_)
      have w10 := w9.up r10
      have r610 := r7.trans (r8.trans (r9.trans r10))
      wtm_at "v"
      refine s_repr w10.one h10 tl ?_
      wtm_at "v"
      refine s_repr w10.one (h5.to w5 r610) tl ?_
      wtm_at "v"
      refine ite_nd (fun c => absurd rfl c) (fun _ => ?_)
      wtm_at "v"
      exact ⟨⟨_, rfl⟩, r5.trans r610⟩
    · rintro σ H5 ⟨⟨y, rfl⟩, r5⟩
      have w5 := w4.up r5
      have hd5 := hd4.to w4 r5
      have h5 := h4.to w4 r5
      wtm_at "v"
      refine ⟨p, Z, v, d, rfl, w5, hd5, t4, fun H7 r7 => ?_⟩
      have w7 := w5.up r7
      have hd7 := hd5.to w5 r7
      wtm_at "v"
      refine ⟨p, Z, v, d, rfl, w7, hd7, fun H8 r8 => ?_⟩
      have w8 := w7.up r8
      have hd8 := hd7.to w7 r8
      wtm_at "v"
      refine ⟨p, Z, v, d, rfl, w8, hd8, t4, fun H9 r9 => ?_⟩
      have w9 := w8.up r9
      have hd9 := hd8.to w8 r9
      wtm_at "v"
      refine s_newl K w9 (datL_cons dat_bl (datL_cons dat_bl (datL_cons dat_bl (datL_cons dat_str datL_nil)))) (by simp) (fun H10 u r10 h10 => ?_)
      have w10 := w9.up r10
      have hd10 := hd9.to w9 r10
      have r610 := r7.trans (r8.trans (r9.trans r10))
      have tt4 : Tame (.list [PyData.bool (isName d), .bool (isTime d), .bool (isStamp d), .str d.shown]) 40 50000 := by
        refine (tame_lst (k := 39) (n := 49500) ?_).mono (by decide) (by decide)
        exact (tameL_cons (tame_bool.mono (by decide) (Nat.le_refl _)) (tameL_cons (tame_bool.mono (by decide) (Nat.le_refl _)) (tameL_cons (tame_bool.mono (by decide) (Nat.le_refl _)) (tameL_cons ⟨tsh.1, tsh.2, tsh.3, by simp [PyData.depth], tsh.5⟩ (tameL_nil.mono (Nat.zero_le 39) (Nat.le_refl _)))))).mono (Nat.le_refl _) (by decide)
      wtm_at "v"
      refine s_repr w10.one h10 tt4 ?_
      wtm_at "v"
      refine s_repr w10.one hd10 t4 ?_
      wtm_at "v"
      refine s_newl K w10 (datL_cons dat_str datL_nil) (by simp) (fun H11 u2 r11 h11 => ?_)
      have w11 := w10.up r11
      refine s_add_lst w11 (h5.to w5 (r610.trans r11)) h11 (sl_of (by simp)) (fun H12 u3 r12 h12 => ?_)
      have w12 := w11.up r12
      wtm_at "v"
      refine s_repr w12.one h12 tt4 ?_
      wtm_at "v"
      have e : decide (PyData.shown (.list [PyData.bool (isName d), .bool (isTime d), .bool (isStamp d), .str d.shown]) = PyData.shown (.list ([PyData.bool (isName d), .bool (isTime d), .bool (isStamp d)] ++ [.str d.shown]))) = true := decide_eq_true rfl
      rw [e]
      exact q _ (r14.trans (r5.trans (r610.trans (r11.trans r12))))
def sp_law (K : PySem.W.Frag) : Sp := fun vs H Q _ => ∃ (a : Addr) (ns : List Int), vs = [.ref a] ∧ One H ∧ SqL K H a (ns.map V.int) ∧ ns.length ≤ 63 ∧ ∀ H', Q (.bl true) H'
theorem ok_law (T : Tx K mg) : FnG P w K mg base 4 T.a_law T.fd_law ["_law_script"] (sp_law K) := by
  refine FnG.ok T.F_law sc_law (fun vs H Q E h => ?_) (fun cdv A outer s H vs Q E hg hr h => ?_)
  · obtain ⟨_, _, rfl, _, _, _, _⟩ := h
    rfl
  · obtain ⟨a, ns, rfl, o1, hS, hlen, q⟩ := h
    refine ⟨_, pss_cons (ps_for PassesOwn.never rfl (pi_range1 rfl T.z_range (pa_cons (pe_callB (call_max2 rfl) (by rfl) T.z_max bt_max (pa_cons (pe_int) (pa_cons (pe_callB (call_min2 rfl) (by rfl) T.z_min bt_min (pa_cons (pe_callB (kx_len (K := K) rfl) (by rfl) T.z_len bt_len (pa_cons (pv 0) pa_nil)) (pa_cons (pe_int) pa_nil))) pa_nil))) pa_nil)) (pg_name (i := 1) sc_law.nd rfl (by first | exact Or.inl rfl | exact Or.inr rfl))
      (pss_cons (ps_set (i := 2) sc_law.nd rfl (by first | exact Or.inl rfl | exact Or.inr rfl) (pe_fn ((ok__law_pot T).at hg (hr.mono (by decide)) (b__law_pot T) .nil passN) rfl T.g__law_pot T.F__law_pot.kp (pa_cons (pv 0) (pa_cons (pv 1) pa_nil))))
    (pss_one (ps_for PassesOwn.never rfl (pi_range1 rfl T.z_range (pa_cons (pe_int) pa_nil)) (pg_name (i := 3) sc_law.nd rfl (by first | exact Or.inl rfl | exact Or.inr rfl))
      (pss_cons (ps_set (i := 4) sc_law.nd rfl (by first | exact Or.inl rfl | exact Or.inr rfl) (pe_fn ((ok__law_mark T).at hg (hr.mono (by decide)) (b__law_mark T) .nil passN) rfl T.g__law_mark T.F__law_mark.kp (pa_cons (pv 2) pa_nil)))
    (pss_cons (ps_set (i := 5) sc_law.nd rfl (by first | exact Or.inl rfl | exact Or.inr rfl) (pe_lst (pa_cons (pe_fn ((ok__law_word T).at hg (hr.mono (by decide)) (b__law_word T) .nil passN) rfl T.g__law_word T.F__law_word.kp (pa_cons (pv 2) pa_nil)) (pa_cons (pv 4) (pa_cons (pe_fn ((ok__law_bent T).at hg (hr.mono (by decide)) (b__law_bent T) .nil passN) rfl T.g__law_bent T.F__law_bent.kp (pa_cons (pv 2) (pa_cons (pv 4) pa_nil))) (pa_cons (pe_tup (pa_cons (pe_fn ((ok__law_moment T).at hg (hr.mono (by decide)) (b__law_moment T) .nil passN) rfl T.g__law_moment T.F__law_moment.kp (pa_cons (pv 2) pa_nil)) (pa_cons (pe_fn ((ok__law_word T).at hg (hr.mono (by decide)) (b__law_word T) .nil passN) rfl T.g__law_word T.F__law_word.kp (pa_cons (pv 2) pa_nil)) (pa_cons (pe_int) pa_nil)))) (pa_cons (pe_fn ((ok__law_odd T).at hg (hr.mono (by decide)) (b__law_odd T) .nil passN) rfl T.g__law_odd T.F__law_odd.kp (pa_cons (pv 2) pa_nil)) pa_nil)))))))
    (pss_one (ps_if (pt_not (pt_val (pe_callB (kx_all (K := K) rfl rfl) (by rfl) T.z_all bt_all (pa_cons (pe_lc (own := [("_law_piece", 6)]) (g := gName 6) (tt := tYes)  rfl sc_law.nd (pi_list (pe_op (kx_add (K := K) rfl) (pv 5) (pe_lst (pa_cons (pe_fn ((ok__law_moment T).at hg (hr.mono (by decide)) (b__law_moment T) .nil passN) rfl T.g__law_moment T.F__law_moment.kp (pa_cons (pv 2) pa_nil)) pa_nil)))) (blkOk_by (own := [("_law_piece", 6)]) (N := N_law) (sc := defScope st_law) (by decide +kernel)) (fun _ _ _ _ _ => pg_name (i := 6) sc_law.nd rfl (by first | exact Or.inl rfl | exact Or.inr rfl)) (fun _ _ _ _ _ => pts_nil) (fun _ _ _ _ _ => pe_fn ((ok__law_right T).at hg (hr.mono (by decide)) (b__law_right T) .nil passN) rfl T.g__law_right T.F__law_right.kp (pa_cons (pv 6) pa_nil))) pa_nil)))) (pss_one (ps_ret (pe_bl))) pss_nil))))))))
    (pss_one (ps_ret (pe_cmpR (kx_eq (K := K) rfl hr) (pe_glob (v := (.int 1000000000000000000)) rfl T.c_MOST_TIME ⟨_, rfl⟩) (pe_op op_pow (pe_int) (pe_int)) (nomark _)))), ?_⟩
    try dsimp only [cxg, cxOf, Cx.nox, Cx.wish]
    wtm_at "v"
    refine .inl ⟨a, _, rfl, .inl hS, ?_⟩
    rw [List.length_map]
    wtm_at "v"
    generalize hn : (if (if (8 : Int) < (ns.length : Int) then (8 : Int) else (ns.length : Int)) > 1 then (if (8 : Int) < (ns.length : Int) then (8 : Int) else (ns.length : Int)) else (1 : Int)) = n
    have n8 : n ≤ 8 := by rw [← hn]; split <;> split <;> omega
    have n0 : 0 ≤ n := by rw [← hn]; split <;> split <;> omega
    refine ⟨by omega, by omega, ?_⟩
    refine s_forI walk_r0 (fun i σ H' => (∃ y1 y2 y3 y4 y5 y6, σ = [some (.ref a), y1, y2, y3, y4, y5, y6]) ∧ Same H H') ⟨⟨_, _, _, _, _, _, rfl⟩, Same.refl _⟩ (fun _ _ _ _ _ => trivial) ?_ ?_
    · rintro i x σ H1 H2 hi ⟨⟨y1, y2, y3, y4, y5, y6, rfl⟩, s1⟩ ⟨rfl, rfl⟩
      wtm_at "v"
      refine ⟨a, ns, i, rfl, s1.seq hS, by omega, fun H3 p s3 hp0 hp => ?_⟩
      wtm_at "v"
      have o3 : One H3 := (R.of_same (p := p) (s1.trans s3)).one o1
      have w3 : Wd p [p] H3 := ⟨o3, fun b hb => by rw [List.mem_singleton.mp hb]; obtain ⟨_, _, e, _⟩ := hp; rw [e]; exact fun z => (nomatch z), List.mem_singleton.mpr rfl⟩
      refine ⟨by decide, by decide, ?_⟩
      refine s_forI walk_r0 (fun i σ H' => (∃ y1 y3 y4 y5 y6, σ = [some (.ref a), y1, some (.ref p), y3, y4, y5, y6]) ∧ R p H3 H') ⟨⟨_, _, _, _, _, rfl⟩, R.refl _ _⟩ (fun _ _ _ _ _ => trivial) ?_ ?_
      · rintro j x σ H4 H5 hj ⟨⟨y1, y3, y4, y5, y6, rfl⟩, r4⟩ ⟨rfl, rfl⟩
        have w4 := w3.up r4
        have hp4 := r4.pot hp
        wtm_at "v"
        refine ⟨p, [p], rfl, w4, hp4, fun H6 vm b c d r6 hm tm => ?_⟩
        have w6 := w4.up r6
        have hp6 := r6.pot hp4
        wtm_at "v"
        refine ⟨p, [p], rfl, w6, hp6, fun H7 z7 r7 l7 k7 => ?_⟩
        have w7 := w6.up r7
        have hp7 := r7.pot hp6
        have hm7 := hm.to w6 r7
        wtm_at "v"
        refine ⟨p, [p], vm, b, c, d, rfl, w7, hp7, hm7, tm, fun H8 v8 e8 r8 h8 t8 => ?_⟩
        have w8 := w7.up r8
        have hp8 := r8.pot hp7
        have hm8 := hm7.to w7 r8
        wtm_at "v"
        refine ⟨p, [p], rfl, w8, hp8, fun H9 i9 r9 a9 b9 => ?_⟩
        have w9 := w8.up r9
        have hp9 := r9.pot hp8
        wtm_at "v"
        refine ⟨p, [p], rfl, w9, hp9, fun H10 z10 r10 l10 k10 => ?_⟩
        have w10 := w9.up r10
        have hp10 := r10.pot hp9
        wtm_at "v"
        refine s_newt K w10 (datL_cons dat_int (datL_cons dat_str (datL_cons dat_int datL_nil))) (by simp) (fun H11 v11 r11 h11 => ?_)
        have w11 := w10.up r11
        have hp11 := r11.pot hp10
        wtm_at "v"
        refine ⟨p, [p], rfl, w11, hp11, fun H12 v12 e12 r12 h12 t12 => ?_⟩
        have w12 := w11.up r12
        have hp12 := r12.pot hp11
        wtm_at "v"
        have r812 := r9.trans (r10.trans (r11.trans r12))
        refine s_newl K w12 (datL_cons dat_str (datL_cons (hm8.to w8 r812) (datL_cons (h8.to w8 r812) (datL_cons (h11.to w11 r12) (datL_cons h12 datL_nil))))) (by simp) (fun H13 v13 r13 h13 => ?_)
        have w13 := w12.up r13
        have hp13 := r13.pot hp12
        wtm_at "v"
        refine ⟨p, [p], rfl, w13, hp13, fun H14 i14 r14 a14 b14 => ?_⟩
        have w14 := w13.up r14
        wtm_at "v"
        refine s_newl K w14 (datL_cons dat_int datL_nil) (by simp) (fun H15 v15 r15 h15 => ?_)
        have w15 := w14.up r15
        refine s_add_lst w15 (h13.to w13 (r14.trans r15)) h15 (sl_of (by simp)) (fun H16 v16 r16 h16 => ?_)
        have w16 := w15.up r16
        have rr := r6.trans (r7.trans (r8.trans (r812.trans (r13.trans (r14.trans (r15.trans r16))))))
        have tt : ∀ d' ∈ [PyData.str z7, .tuple [b, c, d], e8, .tuple [.int i9, .str z10, .int 0], e12] ++ [PyData.int i14], Tame d' 30 150 := by
          intro d' hd'
          simp only [List.cons_append, List.nil_append, List.mem_cons, List.not_mem_nil, or_false] at hd'
          rcases hd' with rfl | rfl | rfl | rfl | rfl | rfl
          · exact (tame_str l7 k7).mono (by decide) (by decide)
          · exact (tame_tup tm).mono (by decide) (by decide)
          · exact t8.mono (by decide) (by decide)
          · refine (tame_tup (k := 1) (n := 13) ?_).mono (by decide) (by decide)
            exact (tameL_cons (tame60 a9 (by omega)) (tameL_cons (tame_str l10 k10) (tameL_cons (tame60 (by decide) (by decide)) (tameL_nil.mono (Nat.zero_le 1) (Nat.le_refl _))))).mono (Nat.le_refl _) (by decide)
          · exact t12.mono (by decide) (by decide)
          · exact (tame60 a14 (by omega)).mono (by decide) (by decide)
        obtain ⟨q16, xs, e16, n16, hx16, l16⟩ := h16.lst
        subst e16
        wtm_at "v"
        refine ⟨⟨xs, .inl hx16⟩, ?_⟩
        have lx : xs.length = 6 := by rw [l16.length]; rfl
        refine s_lc_map (K := K) (walk_list (xs := xs)) (sl_lt (by omega)) w16 (fun _ => .bool true) (fun H17 r17 => .inl (hx16.up r17 (fun z => n16 (List.mem_singleton.mpr z)))) ?_ ?_
        · rintro D i x H17 H18 hD nz hi r17 w17 ⟨rfl, hx⟩ F hF
          wtm_at "v"
          refine ⟨rfl, ?_⟩
          wtm_at "v"
          have hi6 : i < ([PyData.str z7, .tuple [b, c, d], e8, .tuple [.int i9, .str z10, .int 0], e12] ++ [PyData.int i14]).length := by simp; omega
          obtain ⟨v', hv', hd'⟩ := l16.get (List.getElem?_eq_getElem hi6)
          obtain rfl : v' = x := Option.some.inj (hv'.symm.trans hx)
          refine ⟨p, [p], v', _, rfl, w16.up r17, hd'.to w16 r17, tt _ (List.getElem_mem hi6), fun H19 r19 => ?_⟩
          exact hF _ _ r19 dat_bl
        · intro H17 v17 r17 h17
          rw [lx] at h17
          wtm_at "v"
          refine s_all (bs := [true, true, true, true, true, true]) h17 ?_
          wtm_at "v"
          refine ite_b (fun c => by cases c) (fun _ => ?_)
          wtm_at "v"
          exact ⟨⟨_, _, _, _, _, rfl⟩, r4.trans (rr.trans r17)⟩
      · rintro σ H4 ⟨⟨y1, y3, y4, y5, y6, rfl⟩, r4⟩
        exact ⟨⟨_, _, _, _, _, _, rfl⟩, s1.trans (same_pot s3 hp0 r4)⟩
    · rintro σ H1 ⟨⟨y1, y2, y3, y4, y5, y6, rfl⟩, s1⟩
      wtm_at "v"
      rw [show decide ((1000000000000000000 : Int) = 10 ^ Int.toNat 18) = true by decide]
      exact q _
end
/-! ### what the top has written; the law's own head -/
theorem all_mk {l : PySem.W.OpenLaw} {w : World} {K : PySem.W.Frag} {h : Heap} {mg : Str → Option Value} {fa : Addr} (X : K.In h) (G : h.Ns mainGlobals mg) (hfa : mg "law" = some (.ref fa))
    {f_is_name : Addr} {od_is_name an_is_name : Option Addr} {sl_is_name : Array (Option Value)} {oc_is_name kV_is_name dc_is_name pm_is_name cd_is_name ct_is_name : Value}
    {f_is_time : Addr} {od_is_time an_is_time : Option Addr} {sl_is_time : Array (Option Value)} {oc_is_time kV_is_time dc_is_time pm_is_time cd_is_time ct_is_time : Value}
    {f_is_stamp : Addr} {od_is_stamp an_is_stamp : Option Addr} {sl_is_stamp : Array (Option Value)} {oc_is_stamp kV_is_stamp dc_is_stamp pm_is_stamp cd_is_stamp ct_is_stamp : Value}
    {f_law_pot : Addr} {od_law_pot an_law_pot : Option Addr} {sl_law_pot : Array (Option Value)} {oc_law_pot kV_law_pot dc_law_pot pm_law_pot cd_law_pot ct_law_pot : Value}
    {f_law_draw : Addr} {od_law_draw an_law_draw : Option Addr} {sl_law_draw : Array (Option Value)} {oc_law_draw kV_law_draw dc_law_draw pm_law_draw cd_law_draw ct_law_draw : Value}
    {f_law_moment : Addr} {od_law_moment an_law_moment : Option Addr} {sl_law_moment : Array (Option Value)} {oc_law_moment kV_law_moment dc_law_moment pm_law_moment cd_law_moment ct_law_moment : Value}
    {f_law_mark : Addr} {od_law_mark an_law_mark : Option Addr} {sl_law_mark : Array (Option Value)} {oc_law_mark kV_law_mark dc_law_mark pm_law_mark cd_law_mark ct_law_mark : Value}
    {f_law_word : Addr} {od_law_word an_law_word : Option Addr} {sl_law_word : Array (Option Value)} {oc_law_word kV_law_word dc_law_word pm_law_word cd_law_word ct_law_word : Value}
    {f_law_odd : Addr} {od_law_odd an_law_odd : Option Addr} {sl_law_odd : Array (Option Value)} {oc_law_odd kV_law_odd dc_law_odd pm_law_odd cd_law_odd ct_law_odd : Value}
    {f_law_is_word : Addr} {od_law_is_word an_law_is_word : Option Addr} {sl_law_is_word : Array (Option Value)} {oc_law_is_word kV_law_is_word dc_law_is_word pm_law_is_word cd_law_is_word ct_law_is_word : Value}
    {f_law_is_moment : Addr} {od_law_is_moment an_law_is_moment : Option Addr} {sl_law_is_moment : Array (Option Value)} {oc_law_is_moment kV_law_is_moment dc_law_is_moment pm_law_is_moment cd_law_is_moment ct_law_is_moment : Value}
    {f_law_is_mark : Addr} {od_law_is_mark an_law_is_mark : Option Addr} {sl_law_is_mark : Array (Option Value)} {oc_law_is_mark kV_law_is_mark dc_law_is_mark pm_law_is_mark cd_law_is_mark ct_law_is_mark : Value}
    {f_law_bent : Addr} {od_law_bent an_law_bent : Option Addr} {sl_law_bent : Array (Option Value)} {oc_law_bent kV_law_bent dc_law_bent pm_law_bent cd_law_bent ct_law_bent : Value}
    {f_law_right : Addr} {od_law_right an_law_right : Option Addr} {sl_law_right : Array (Option Value)} {oc_law_right kV_law_right dc_law_right pm_law_right cd_law_right ct_law_right : Value}
    {f_law : Addr} {od_law an_law : Option Addr} {sl_law : Array (Option Value)} {oc_law kV_law dc_law pm_law cd_law ct_law : Value}
    {t_LETTERS : Tok}
    {t_MOST_LETTERS : Tok}
    {t_MOST_TIME : Tok}
    (a_is_name : PySem.W.nsIn K mainGlobals "is_name" = some (some (.ref f_is_name))) (l_is_name : K.lookup f_is_name = some ⟨oc_is_name, od_is_name, .func (PySem.W.fnOf "is_name" "is_name" (defArgs st_is_name) (defBody st_is_name) (defScope st_is_name) .none kV_is_name dc_is_name pm_is_name an_is_name cd_is_name ct_is_name), sl_is_name⟩) (c_is_name : PySem.W.codeIn K cd_is_name "is_name" = true) (k_is_name : PySem.W.keepIn K (.ref f_is_name) = true)
    (a_is_time : PySem.W.nsIn K mainGlobals "is_time" = some (some (.ref f_is_time))) (l_is_time : K.lookup f_is_time = some ⟨oc_is_time, od_is_time, .func (PySem.W.fnOf "is_time" "is_time" (defArgs st_is_time) (defBody st_is_time) (defScope st_is_time) .none kV_is_time dc_is_time pm_is_time an_is_time cd_is_time ct_is_time), sl_is_time⟩) (c_is_time : PySem.W.codeIn K cd_is_time "is_time" = true) (k_is_time : PySem.W.keepIn K (.ref f_is_time) = true)
    (a_is_stamp : PySem.W.nsIn K mainGlobals "is_stamp" = some (some (.ref f_is_stamp))) (l_is_stamp : K.lookup f_is_stamp = some ⟨oc_is_stamp, od_is_stamp, .func (PySem.W.fnOf "is_stamp" "is_stamp" (defArgs st_is_stamp) (defBody st_is_stamp) (defScope st_is_stamp) .none kV_is_stamp dc_is_stamp pm_is_stamp an_is_stamp cd_is_stamp ct_is_stamp), sl_is_stamp⟩) (c_is_stamp : PySem.W.codeIn K cd_is_stamp "is_stamp" = true) (k_is_stamp : PySem.W.keepIn K (.ref f_is_stamp) = true)
    (a_law_pot : PySem.W.nsIn K mainGlobals "_law_pot" = some (some (.ref f_law_pot))) (l_law_pot : K.lookup f_law_pot = some ⟨oc_law_pot, od_law_pot, .func (PySem.W.fnOf "_law_pot" "_law_pot" (defArgs st__law_pot) (defBody st__law_pot) (defScope st__law_pot) .none kV_law_pot dc_law_pot pm_law_pot an_law_pot cd_law_pot ct_law_pot), sl_law_pot⟩) (c_law_pot : PySem.W.codeIn K cd_law_pot "_law_pot" = true) (k_law_pot : PySem.W.keepIn K (.ref f_law_pot) = true)
    (a_law_draw : PySem.W.nsIn K mainGlobals "_law_draw" = some (some (.ref f_law_draw))) (l_law_draw : K.lookup f_law_draw = some ⟨oc_law_draw, od_law_draw, .func (PySem.W.fnOf "_law_draw" "_law_draw" (defArgs st__law_draw) (defBody st__law_draw) (defScope st__law_draw) .none kV_law_draw dc_law_draw pm_law_draw an_law_draw cd_law_draw ct_law_draw), sl_law_draw⟩) (c_law_draw : PySem.W.codeIn K cd_law_draw "_law_draw" = true) (k_law_draw : PySem.W.keepIn K (.ref f_law_draw) = true)
    (a_law_moment : PySem.W.nsIn K mainGlobals "_law_moment" = some (some (.ref f_law_moment))) (l_law_moment : K.lookup f_law_moment = some ⟨oc_law_moment, od_law_moment, .func (PySem.W.fnOf "_law_moment" "_law_moment" (defArgs st__law_moment) (defBody st__law_moment) (defScope st__law_moment) .none kV_law_moment dc_law_moment pm_law_moment an_law_moment cd_law_moment ct_law_moment), sl_law_moment⟩) (c_law_moment : PySem.W.codeIn K cd_law_moment "_law_moment" = true) (k_law_moment : PySem.W.keepIn K (.ref f_law_moment) = true)
    (a_law_mark : PySem.W.nsIn K mainGlobals "_law_mark" = some (some (.ref f_law_mark))) (l_law_mark : K.lookup f_law_mark = some ⟨oc_law_mark, od_law_mark, .func (PySem.W.fnOf "_law_mark" "_law_mark" (defArgs st__law_mark) (defBody st__law_mark) (defScope st__law_mark) .none kV_law_mark dc_law_mark pm_law_mark an_law_mark cd_law_mark ct_law_mark), sl_law_mark⟩) (c_law_mark : PySem.W.codeIn K cd_law_mark "_law_mark" = true) (k_law_mark : PySem.W.keepIn K (.ref f_law_mark) = true)
    (a_law_word : PySem.W.nsIn K mainGlobals "_law_word" = some (some (.ref f_law_word))) (l_law_word : K.lookup f_law_word = some ⟨oc_law_word, od_law_word, .func (PySem.W.fnOf "_law_word" "_law_word" (defArgs st__law_word) (defBody st__law_word) (defScope st__law_word) .none kV_law_word dc_law_word pm_law_word an_law_word cd_law_word ct_law_word), sl_law_word⟩) (c_law_word : PySem.W.codeIn K cd_law_word "_law_word" = true) (k_law_word : PySem.W.keepIn K (.ref f_law_word) = true)
    (a_law_odd : PySem.W.nsIn K mainGlobals "_law_odd" = some (some (.ref f_law_odd))) (l_law_odd : K.lookup f_law_odd = some ⟨oc_law_odd, od_law_odd, .func (PySem.W.fnOf "_law_odd" "_law_odd" (defArgs st__law_odd) (defBody st__law_odd) (defScope st__law_odd) .none kV_law_odd dc_law_odd pm_law_odd an_law_odd cd_law_odd ct_law_odd), sl_law_odd⟩) (c_law_odd : PySem.W.codeIn K cd_law_odd "_law_odd" = true) (k_law_odd : PySem.W.keepIn K (.ref f_law_odd) = true)
    (a_law_is_word : PySem.W.nsIn K mainGlobals "_law_is_word" = some (some (.ref f_law_is_word))) (l_law_is_word : K.lookup f_law_is_word = some ⟨oc_law_is_word, od_law_is_word, .func (PySem.W.fnOf "_law_is_word" "_law_is_word" (defArgs st__law_is_word) (defBody st__law_is_word) (defScope st__law_is_word) .none kV_law_is_word dc_law_is_word pm_law_is_word an_law_is_word cd_law_is_word ct_law_is_word), sl_law_is_word⟩) (c_law_is_word : PySem.W.codeIn K cd_law_is_word "_law_is_word" = true) (k_law_is_word : PySem.W.keepIn K (.ref f_law_is_word) = true)
    (a_law_is_moment : PySem.W.nsIn K mainGlobals "_law_is_moment" = some (some (.ref f_law_is_moment))) (l_law_is_moment : K.lookup f_law_is_moment = some ⟨oc_law_is_moment, od_law_is_moment, .func (PySem.W.fnOf "_law_is_moment" "_law_is_moment" (defArgs st__law_is_moment) (defBody st__law_is_moment) (defScope st__law_is_moment) .none kV_law_is_moment dc_law_is_moment pm_law_is_moment an_law_is_moment cd_law_is_moment ct_law_is_moment), sl_law_is_moment⟩) (c_law_is_moment : PySem.W.codeIn K cd_law_is_moment "_law_is_moment" = true) (k_law_is_moment : PySem.W.keepIn K (.ref f_law_is_moment) = true)
    (a_law_is_mark : PySem.W.nsIn K mainGlobals "_law_is_mark" = some (some (.ref f_law_is_mark))) (l_law_is_mark : K.lookup f_law_is_mark = some ⟨oc_law_is_mark, od_law_is_mark, .func (PySem.W.fnOf "_law_is_mark" "_law_is_mark" (defArgs st__law_is_mark) (defBody st__law_is_mark) (defScope st__law_is_mark) .none kV_law_is_mark dc_law_is_mark pm_law_is_mark an_law_is_mark cd_law_is_mark ct_law_is_mark), sl_law_is_mark⟩) (c_law_is_mark : PySem.W.codeIn K cd_law_is_mark "_law_is_mark" = true) (k_law_is_mark : PySem.W.keepIn K (.ref f_law_is_mark) = true)
    (a_law_bent : PySem.W.nsIn K mainGlobals "_law_bent" = some (some (.ref f_law_bent))) (l_law_bent : K.lookup f_law_bent = some ⟨oc_law_bent, od_law_bent, .func (PySem.W.fnOf "_law_bent" "_law_bent" (defArgs st__law_bent) (defBody st__law_bent) (defScope st__law_bent) .none kV_law_bent dc_law_bent pm_law_bent an_law_bent cd_law_bent ct_law_bent), sl_law_bent⟩) (c_law_bent : PySem.W.codeIn K cd_law_bent "_law_bent" = true) (k_law_bent : PySem.W.keepIn K (.ref f_law_bent) = true)
    (a_law_right : PySem.W.nsIn K mainGlobals "_law_right" = some (some (.ref f_law_right))) (l_law_right : K.lookup f_law_right = some ⟨oc_law_right, od_law_right, .func (PySem.W.fnOf "_law_right" "_law_right" (defArgs st__law_right) (defBody st__law_right) (defScope st__law_right) .none kV_law_right dc_law_right pm_law_right an_law_right cd_law_right ct_law_right), sl_law_right⟩) (c_law_right : PySem.W.codeIn K cd_law_right "_law_right" = true) (k_law_right : PySem.W.keepIn K (.ref f_law_right) = true)
    (a_law : PySem.W.nsIn K mainGlobals "law" = some (some (.ref f_law))) (l_law : K.lookup f_law = some ⟨oc_law, od_law, .func (PySem.W.fnOf "law" "law" (defArgs st_law) (defBody st_law) (defScope st_law) .none kV_law dc_law pm_law an_law cd_law ct_law), sl_law⟩) (c_law : PySem.W.codeIn K cd_law "law" = true) (k_law : PySem.W.keepIn K (.ref f_law) = true)
    (z_abs : PySem.W.nsIn K mainGlobals "abs" = some none)
    (z_all : PySem.W.nsIn K mainGlobals "all" = some none)
    (z_bool : PySem.W.nsIn K mainGlobals "bool" = some none)
    (z_divmod : PySem.W.nsIn K mainGlobals "divmod" = some none)
    (z_int : PySem.W.nsIn K mainGlobals "int" = some none)
    (z_isinstance : PySem.W.nsIn K mainGlobals "isinstance" = some none)
    (z_len : PySem.W.nsIn K mainGlobals "len" = some none)
    (z_list : PySem.W.nsIn K mainGlobals "list" = some none)
    (z_max : PySem.W.nsIn K mainGlobals "max" = some none)
    (z_min : PySem.W.nsIn K mainGlobals "min" = some none)
    (z_range : PySem.W.nsIn K mainGlobals "range" = some none)
    (z_repr : PySem.W.nsIn K mainGlobals "repr" = some none)
    (z_str : PySem.W.nsIn K mainGlobals "str" = some none)
    (z_tuple : PySem.W.nsIn K mainGlobals "tuple" = some none)
    (v_LETTERS : PySem.W.nsIn K mainGlobals "LETTERS" = some (some (.str "abcdefghijklmnopqrstuvwxyz" t_LETTERS)))
    (v_MOST_LETTERS : PySem.W.nsIn K mainGlobals "MOST_LETTERS" = some (some (.int 8 t_MOST_LETTERS)))
    (v_MOST_TIME : PySem.W.nsIn K mainGlobals "MOST_TIME" = some (some (.int 1000000000000000000 t_MOST_TIME)))
    : ∃ fd : FuncData, (∀ (s : Shared) (v : Value), BindsTo s fd ⟨[v], []⟩ [("_law_script", v)]) ∧ ∀ base : Heap, K.In base → base.Ns mainGlobals mg → FnG l.prog w K mg base 4 fa fd ["_law_script"] (sp_law K) := by
  obtain rfl : f_law = fa := by
    have e := hfa.symm.trans (PySem.W.mg_of X G a_law)
    cases e
    rfl
  let T : Tx K mg :=
    { a_is_name := f_is_name
      fd_is_name := (PySem.W.fnOf "is_name" "is_name" (defArgs st_is_name) (defBody st_is_name) (defScope st_is_name) .none kV_is_name dc_is_name pm_is_name an_is_name cd_is_name ct_is_name)
      F_is_name := fun_mk (st := st_is_name) l_is_name c_is_name k_is_name
      g_is_name := PySem.W.mg_of X G a_is_name
      a_is_time := f_is_time
      fd_is_time := (PySem.W.fnOf "is_time" "is_time" (defArgs st_is_time) (defBody st_is_time) (defScope st_is_time) .none kV_is_time dc_is_time pm_is_time an_is_time cd_is_time ct_is_time)
      F_is_time := fun_mk (st := st_is_time) l_is_time c_is_time k_is_time
      g_is_time := PySem.W.mg_of X G a_is_time
      a_is_stamp := f_is_stamp
      fd_is_stamp := (PySem.W.fnOf "is_stamp" "is_stamp" (defArgs st_is_stamp) (defBody st_is_stamp) (defScope st_is_stamp) .none kV_is_stamp dc_is_stamp pm_is_stamp an_is_stamp cd_is_stamp ct_is_stamp)
      F_is_stamp := fun_mk (st := st_is_stamp) l_is_stamp c_is_stamp k_is_stamp
      g_is_stamp := PySem.W.mg_of X G a_is_stamp
      a__law_pot := f_law_pot
      fd__law_pot := (PySem.W.fnOf "_law_pot" "_law_pot" (defArgs st__law_pot) (defBody st__law_pot) (defScope st__law_pot) .none kV_law_pot dc_law_pot pm_law_pot an_law_pot cd_law_pot ct_law_pot)
      F__law_pot := fun_mk (st := st__law_pot) l_law_pot c_law_pot k_law_pot
      g__law_pot := PySem.W.mg_of X G a_law_pot
      a__law_draw := f_law_draw
      fd__law_draw := (PySem.W.fnOf "_law_draw" "_law_draw" (defArgs st__law_draw) (defBody st__law_draw) (defScope st__law_draw) .none kV_law_draw dc_law_draw pm_law_draw an_law_draw cd_law_draw ct_law_draw)
      F__law_draw := fun_mk (st := st__law_draw) l_law_draw c_law_draw k_law_draw
      g__law_draw := PySem.W.mg_of X G a_law_draw
      a__law_moment := f_law_moment
      fd__law_moment := (PySem.W.fnOf "_law_moment" "_law_moment" (defArgs st__law_moment) (defBody st__law_moment) (defScope st__law_moment) .none kV_law_moment dc_law_moment pm_law_moment an_law_moment cd_law_moment ct_law_moment)
      F__law_moment := fun_mk (st := st__law_moment) l_law_moment c_law_moment k_law_moment
      g__law_moment := PySem.W.mg_of X G a_law_moment
      a__law_mark := f_law_mark
      fd__law_mark := (PySem.W.fnOf "_law_mark" "_law_mark" (defArgs st__law_mark) (defBody st__law_mark) (defScope st__law_mark) .none kV_law_mark dc_law_mark pm_law_mark an_law_mark cd_law_mark ct_law_mark)
      F__law_mark := fun_mk (st := st__law_mark) l_law_mark c_law_mark k_law_mark
      g__law_mark := PySem.W.mg_of X G a_law_mark
      a__law_word := f_law_word
      fd__law_word := (PySem.W.fnOf "_law_word" "_law_word" (defArgs st__law_word) (defBody st__law_word) (defScope st__law_word) .none kV_law_word dc_law_word pm_law_word an_law_word cd_law_word ct_law_word)
      F__law_word := fun_mk (st := st__law_word) l_law_word c_law_word k_law_word
      g__law_word := PySem.W.mg_of X G a_law_word
      a__law_odd := f_law_odd
      fd__law_odd := (PySem.W.fnOf "_law_odd" "_law_odd" (defArgs st__law_odd) (defBody st__law_odd) (defScope st__law_odd) .none kV_law_odd dc_law_odd pm_law_odd an_law_odd cd_law_odd ct_law_odd)
      F__law_odd := fun_mk (st := st__law_odd) l_law_odd c_law_odd k_law_odd
      g__law_odd := PySem.W.mg_of X G a_law_odd
      a__law_is_word := f_law_is_word
      fd__law_is_word := (PySem.W.fnOf "_law_is_word" "_law_is_word" (defArgs st__law_is_word) (defBody st__law_is_word) (defScope st__law_is_word) .none kV_law_is_word dc_law_is_word pm_law_is_word an_law_is_word cd_law_is_word ct_law_is_word)
      F__law_is_word := fun_mk (st := st__law_is_word) l_law_is_word c_law_is_word k_law_is_word
      g__law_is_word := PySem.W.mg_of X G a_law_is_word
      a__law_is_moment := f_law_is_moment
      fd__law_is_moment := (PySem.W.fnOf "_law_is_moment" "_law_is_moment" (defArgs st__law_is_moment) (defBody st__law_is_moment) (defScope st__law_is_moment) .none kV_law_is_moment dc_law_is_moment pm_law_is_moment an_law_is_moment cd_law_is_moment ct_law_is_moment)
      F__law_is_moment := fun_mk (st := st__law_is_moment) l_law_is_moment c_law_is_moment k_law_is_moment
      g__law_is_moment := PySem.W.mg_of X G a_law_is_moment
      a__law_is_mark := f_law_is_mark
      fd__law_is_mark := (PySem.W.fnOf "_law_is_mark" "_law_is_mark" (defArgs st__law_is_mark) (defBody st__law_is_mark) (defScope st__law_is_mark) .none kV_law_is_mark dc_law_is_mark pm_law_is_mark an_law_is_mark cd_law_is_mark ct_law_is_mark)
      F__law_is_mark := fun_mk (st := st__law_is_mark) l_law_is_mark c_law_is_mark k_law_is_mark
      g__law_is_mark := PySem.W.mg_of X G a_law_is_mark
      a__law_bent := f_law_bent
      fd__law_bent := (PySem.W.fnOf "_law_bent" "_law_bent" (defArgs st__law_bent) (defBody st__law_bent) (defScope st__law_bent) .none kV_law_bent dc_law_bent pm_law_bent an_law_bent cd_law_bent ct_law_bent)
      F__law_bent := fun_mk (st := st__law_bent) l_law_bent c_law_bent k_law_bent
      g__law_bent := PySem.W.mg_of X G a_law_bent
      a__law_right := f_law_right
      fd__law_right := (PySem.W.fnOf "_law_right" "_law_right" (defArgs st__law_right) (defBody st__law_right) (defScope st__law_right) .none kV_law_right dc_law_right pm_law_right an_law_right cd_law_right ct_law_right)
      F__law_right := fun_mk (st := st__law_right) l_law_right c_law_right k_law_right
      g__law_right := PySem.W.mg_of X G a_law_right
      a_law := f_law
      fd_law := (PySem.W.fnOf "law" "law" (defArgs st_law) (defBody st_law) (defScope st_law) .none kV_law dc_law pm_law an_law cd_law ct_law)
      F_law := fun_mk (st := st_law) l_law c_law k_law
      g_law := PySem.W.mg_of X G a_law
      z_abs := PySem.W.mg_none_of X G z_abs
      z_all := PySem.W.mg_none_of X G z_all
      z_bool := PySem.W.mg_none_of X G z_bool
      z_divmod := PySem.W.mg_none_of X G z_divmod
      z_int := PySem.W.mg_none_of X G z_int
      z_isinstance := PySem.W.mg_none_of X G z_isinstance
      z_len := PySem.W.mg_none_of X G z_len
      z_list := PySem.W.mg_none_of X G z_list
      z_max := PySem.W.mg_none_of X G z_max
      z_min := PySem.W.mg_none_of X G z_min
      z_range := PySem.W.mg_none_of X G z_range
      z_repr := PySem.W.mg_none_of X G z_repr
      z_str := PySem.W.mg_none_of X G z_str
      z_tuple := PySem.W.mg_none_of X G z_tuple
      t_LETTERS := t_LETTERS
      c_LETTERS := PySem.W.mg_of X G v_LETTERS
      t_MOST_LETTERS := t_MOST_LETTERS
      c_MOST_LETTERS := PySem.W.mg_of X G v_MOST_LETTERS
      t_MOST_TIME := t_MOST_TIME
      c_MOST_TIME := PySem.W.mg_of X G v_MOST_TIME }
  exact ⟨T.fd_law, fun s v => .of_eq rfl, fun base _ _ => ok_law T⟩
end PX
open PySem PySem.W PyProof.Rows
set_option maxRecDepth 100000 in
set_option maxHeartbeats 0 in
theorem PySem.Challenge.cw_paritycells_k31_names_times_stamps_holds : PySem.Challenge.rw_paritycells_k31_names_times_stamps.Holds := by
  w_on; o_law; k_head; (case hw => w_witness2)
  k_fill
  refine PC.walkG (l := PySem.Challenge.rw_paritycells_k31_names_times_stamps) (n := 63) (k := 4) (x := "_law_script") (sp := fun w => PX.sp_law _) rfl (by decide) rfl ⟨rfl, by decide, by decide⟩ (fun w h Y => PySem.W.kIn_of Y) ?K1 (by first | rfl | decide +kernel) ?F (fun _ _ a ns hl hb h1 hS => ⟨a, ns, rfl, h1, hS, hl, fun _ => rfl⟩)
  case K1 => intro w; first | rfl | k_is | decide +kernel
  case F =>
    intro w mg fa h KX G hmg
    refine' PX.all_mk KX G hmg ?a_is_name ?l_is_name ?c_is_name ?k_is_name ?a_is_time ?l_is_time ?c_is_time ?k_is_time ?a_is_stamp ?l_is_stamp ?c_is_stamp ?k_is_stamp ?a_law_pot ?l_law_pot ?c_law_pot ?k_law_pot ?a_law_draw ?l_law_draw ?c_law_draw ?k_law_draw ?a_law_moment ?l_law_moment ?c_law_moment ?k_law_moment ?a_law_mark ?l_law_mark ?c_law_mark ?k_law_mark ?a_law_word ?l_law_word ?c_law_word ?k_law_word ?a_law_odd ?l_law_odd ?c_law_odd ?k_law_odd ?a_law_is_word ?l_law_is_word ?c_law_is_word ?k_law_is_word ?a_law_is_moment ?l_law_is_moment ?c_law_is_moment ?k_law_is_moment ?a_law_is_mark ?l_law_is_mark ?c_law_is_mark ?k_law_is_mark ?a_law_bent ?l_law_bent ?c_law_bent ?k_law_bent ?a_law_right ?l_law_right ?c_law_right ?k_law_right ?a_law ?l_law ?c_law ?k_law ?z_abs ?z_all ?z_bool ?z_divmod ?z_int ?z_isinstance ?z_len ?z_list ?z_max ?z_min ?z_range ?z_repr ?z_str ?z_tuple ?v_LETTERS ?v_MOST_LETTERS ?v_MOST_TIME
    (case a_is_name => k_is)
    (case l_is_name => k_is)
    (case c_is_name => k_is)
    (case k_is_name => k_is)
    (case a_is_time => k_is)
    (case l_is_time => k_is)
    (case c_is_time => k_is)
    (case k_is_time => k_is)
    (case a_is_stamp => k_is)
    (case l_is_stamp => k_is)
    (case c_is_stamp => k_is)
    (case k_is_stamp => k_is)
    (case a_law_pot => k_is)
    (case l_law_pot => k_is)
    (case c_law_pot => k_is)
    (case k_law_pot => k_is)
    (case a_law_draw => k_is)
    (case l_law_draw => k_is)
    (case c_law_draw => k_is)
    (case k_law_draw => k_is)
    (case a_law_moment => k_is)
    (case l_law_moment => k_is)
    (case c_law_moment => k_is)
    (case k_law_moment => k_is)
    (case a_law_mark => k_is)
    (case l_law_mark => k_is)
    (case c_law_mark => k_is)
    (case k_law_mark => k_is)
    (case a_law_word => k_is)
    (case l_law_word => k_is)
    (case c_law_word => k_is)
    (case k_law_word => k_is)
    (case a_law_odd => k_is)
    (case l_law_odd => k_is)
    (case c_law_odd => k_is)
    (case k_law_odd => k_is)
    (case a_law_is_word => k_is)
    (case l_law_is_word => k_is)
    (case c_law_is_word => k_is)
    (case k_law_is_word => k_is)
    (case a_law_is_moment => k_is)
    (case l_law_is_moment => k_is)
    (case c_law_is_moment => k_is)
    (case k_law_is_moment => k_is)
    (case a_law_is_mark => k_is)
    (case l_law_is_mark => k_is)
    (case c_law_is_mark => k_is)
    (case k_law_is_mark => k_is)
    (case a_law_bent => k_is)
    (case l_law_bent => k_is)
    (case c_law_bent => k_is)
    (case k_law_bent => k_is)
    (case a_law_right => k_is)
    (case l_law_right => k_is)
    (case c_law_right => k_is)
    (case k_law_right => k_is)
    (case a_law => k_is)
    (case l_law => k_is)
    (case c_law => k_is)
    (case k_law => k_is)
    (case z_abs => k_is)
    (case z_all => k_is)
    (case z_bool => k_is)
    (case z_divmod => k_is)
    (case z_int => k_is)
    (case z_isinstance => k_is)
    (case z_len => k_is)
    (case z_list => k_is)
    (case z_max => k_is)
    (case z_min => k_is)
    (case z_range => k_is)
    (case z_repr => k_is)
    (case z_str => k_is)
    (case z_tuple => k_is)
    (case v_LETTERS => k_is)
    (case v_MOST_LETTERS => k_is)
    (case v_MOST_TIME => k_is)
