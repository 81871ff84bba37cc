import PyProof.Rows.All
import Wide.All
import OpenK.AllK
import Wide.FinOn
import HandS.ForMost
import HandS.ForExc
import HandS.IsInst
import HandS.EndBits
import HandS.Wide
import HandS.Walk
import KE.KIsAll
import KE.KTryMore
import KE.KExcIs
import KE.KExcInit
import HandS.Exc
import HandS.ExcField
import HandS.ExcOwn
import HandS.CallSlots
import HandS.Defaults
import HandS.MakeKwOnly
import HandS.SortInts
import HandS.Zip
import HandS.Conv
import HandS.More
import KE.KCallOwn
import KE.KFmtOwn
import HandS.WideBits
import KE.IntBitsLaws
import KE.BitLaws
import HandS.FStr
import HandS.TryMany
import PyProof.InstNe
import PyProof.Rows.InDataRows
import PySem.Challenge.RW_paritycells_k22_whole_moved_past
set_option Elab.async false
set_option linter.all false
set_option maxRecDepth 100000
set_option maxHeartbeats 2000000
/-! PcA: defs around which no text of an object is being made (so repr may be asked); calls by values; the end. -/
namespace PC
open PySem PySem.Spec PyProof.Rows L2

/-- as the layer's promise of a def, for surroundings in which no repr is under way -/
structure FnG (P : Program) (w : World) (K : PySem.W.Frag) (mg : Str → Option Value) (base : Heap)
    (k : Nat) (f : Addr) (fd : FuncData) (ps : List Str) (sp : Sp) : Prop where
  len : ∀ vs H Q E, sp vs H Q E → vs.length = ps.length
  run : ∀ (A : Around) (outer : List Env) (s : Shared) (H : Hp) (args : Args)
      (us : List Value) (vs : List V) (Q : VK) (E : XK),
    A.guards = some [] → Room k A → Env0 P w K mg base A outer s H →
    BindsTo s fd args (ps.zip us) → Vals vs us → sp vs H Q E →
    codeAny (model P w) A (.call (.ref f) args) (CR (L2.CX P w) outer P w H s Q E) s

section
variable {P : Program} {w : World} {K : PySem.W.Frag} {mg : Str → Option Value} {base : Heap}

theorem FnG.mono {j k : Nat} {f : Addr} {fd : FuncData} {ps : List Str} {sp : Sp}
    (F : FnG P w K mg base j f fd ps sp) (h : j ≤ k) : FnG P w K mg base k f fd ps sp :=
  ⟨F.len, fun A o s H a us vs Q E g r => F.run A o s H a us vs Q E g (r.mono h)⟩
theorem FnG.imp {k : Nat} {f : Addr} {fd : FuncData} {ps : List Str} {sp sp' : Sp}
    (F : FnG P w K mg base k f fd ps sp) (h : ∀ vs H Q E, sp' vs H Q E → sp vs H Q E) : FnG P w K mg base k f fd ps sp' :=
  ⟨fun vs H Q E q => F.len vs H Q E (h _ _ _ _ q),
    fun A o s H a us vs Q E g r e0 b rv q => F.run A o s H a us vs Q E g r e0 b rv (h _ _ _ _ q)⟩

/-- the context of a body -/
abbrev cxg (P : Program) (w : World) (K : PySem.W.Frag) (mg : Str → Option Value) (base : Heap) (N : List Str) (qual : Str)
    (st : Stmt) (f : Addr) (cdv : Value) (A : Around) (outer : List Env) (s : Shared) (H : Hp) (E : XK) : Cx :=
  cxOf (L2.CX P w) P w K mg base N qual (defScope st) f cdv A outer s H E

/-- a def of the text by its body; the body may lean on «no repr is under way» -/
theorem FnG.okX {x qual : Str} {st : Stmt} {f : Addr} {fd : FuncData} {N ps : List Str} {k : Nat} {sp : Sp}
    (F : Fun K x qual st f fd) (S : FnScope N ps (defScope st))
    (len : ∀ vs H Q E, sp vs H Q E → vs.length = ps.length)
    (body : ∀ (cdv : Value) (A : Around) (outer : List Env) (s : Shared) (H : Hp) (vs : List V) (Q : VK) (E : XK),
      A.guards = some [] → Room k (A.deeper (envOfC qual (defScope st) s.heap.objs.size f cdv)) → sp vs H Q E →
      ∃ t, PSs (cxg P w K mg base N qual st f cdv A outer s H E) (defBody st) t ∧
        t { nx := fun _ H' => Q .non H', rt := Q } (start N vs) H) :
    FnG P w K mg base (k + 1) f fd ps sp := by
  obtain ⟨oc, od, kV, doc, pm, an, cdv, ct, osl, rfl, lk, hcd⟩ := F.ex
  refine ⟨len, fun A outer s H args us vs Q E hg hr e0 hb rv hsp => ?_⟩
  have bk : ∀ b o, base.get? b = some o → s.heap.get? b = some o := fun b o e => (e0.bs b o e).1
  have cells : ∀ y ∈ ps.zip us, (defScope st).names.lookup y.1 = some .local ∨
      ((defScope st).names.lookup y.1 = some .cell ∧
        ((cellsFrom (s.heap.objs.size + 1) (defScope st).names []).lookup y.1).isSome = true) := by
    rintro ⟨n, v⟩ hy
    rcases S.par n (List.of_mem_zip hy).1 with z | z
    · exact .inl z
    · exact .inr ⟨z, PySem.W.cellsFrom_some _ _ _ (.inl z)⟩
  refine codeAny_call_function hr.depth ((e0.mod.kin.keeps bk) _ _ lk) rfl S.co S.gen rfl
    (PySem.W.codeRec_of (e0.mod.kin.keeps bk) hcd) (hb _ _ _ _ ?_)
  refine wpAny_newFunctionEnv_cells S.kind cells fun env he s1 x => ?_
  subst he
  refine ⟨(e0.mod.nolimit.keeps bk).keeps x.toInCall.keep, codeAny_func ?_⟩
  obtain ⟨t, ht, hq⟩ := body cdv A outer s H vs Q E hg (hr.deeper _) hsp
  refine wpAny_mono (ht.run [] s1 (start N vs) H _
    (inv_start S hr.hd e0 (len _ _ _ _ hsp) rv x) hq) (fun fl s' hs => ?_) fun e s' hs => hs
  cases fl with
  | ret u =>
    obtain ⟨v, _, H', J, r, q⟩ := hs
    exact ⟨v, H', J.os, J.bare, J.base, J.hok, r, q⟩
  | next =>
    obtain ⟨_, H', J, q⟩ := hs
    exact ⟨V.non, H', J.os, J.bare, J.base, J.hok, rfl, q⟩
  | brk => obtain ⟨_, _, _, q⟩ := hs; exact q.elim
  | cont => obtain ⟨_, _, _, q⟩ := hs; exact q.elim

/-- the same for a def that lets nothing out -/
theorem FnG.ok {x qual : Str} {st : Stmt} {f : Addr} {fd : FuncData} {N ps : List Str} {k : Nat} {sp : Sp}
    (F : Fun K x qual st f fd) (S : FnScope N ps (defScope st))
    (len : ∀ vs H Q E, sp vs H Q E → vs.length = ps.length)
    (body : ∀ (cdv : Value) (A : Around) (outer : List Env) (s : Shared) (H : Hp) (vs : List V) (Q : VK) (E : XK),
      A.guards = some [] → Room k (A.deeper (envOfC qual (defScope st) s.heap.objs.size f cdv)) → sp vs H Q E →
      ∃ t, PSs (cxg P w K mg base N qual st f cdv A outer s H E).nox (defBody st) t ∧
        t { nx := fun _ H' => Q .non H', rt := Q } (start N vs) H) :
    FnG P w K mg base (k + 1) f fd ps sp :=
  FnG.okX F S len fun cdv A outer s H vs Q E g r h =>
    let ⟨t, ht, q⟩ := body cdv A outer s H vs Q E g r h
    ⟨t, ht.nox, q⟩
end

/-- nothing leaves: a call in a def that lets nothing out -/
theorem passN {X : Cx} : Passes (L2.CX X.prog X.w) X E0 := by
  rintro pins σ H s e s' I ⟨a, B, H', cls, d, h1, h2, h3, h4, h5, h6, h7, h8⟩
  exact h8.elim

section
variable {X : Cx} {k : Nat} {f : Addr} {fd : FuncData} {ps ks : List Str} {sp : Sp} {dvs : List V} {ds : List Value} {E : XK}
/-- a def by its values: positional -/
theorem FnG.at (F : FnG X.prog X.w X.K X.mg X.base k f fd ps sp) (hg : X.A.guards = some []) (hr : Room k X.A)
    (hb : Binds X.K fd ps ds) (hd : Vals dvs ds) (hx : Passes (L2.CX X.prog X.w) X E) :
    CallR X (.ref f) (fun vs H Q => sp (vs ++ dvs) H Q E) := by
  intro pins s σ H vs us Q I rv h
  have r2 : Vals (vs ++ dvs) (us ++ ds) := rv.append hd
  have hl : (us ++ ds).length = ps.length := by rw [← r2.length]; exact F.len _ _ _ _ h
  refine wpAny_call (codeAny_mono (F.run X.A X.stack s H ⟨us, []⟩ (us ++ ds) (vs ++ dvs) Q E hg hr I.env0
    (hb s us I.kIn hl) r2 h) fun r s' hq => ?_)
  match r, hq with
  | .error e, hq => exact hx pins σ H s e s' I hq
  | .ok (.ret u), hq => exact I.after hq
  | .ok .next, hq => exact hq.elim
  | .ok .brk, hq => exact hq.elim
  | .ok .cont, hq => exact hq.elim

/-- a call with keywords, by values -/
def CallKR (X : Cx) (f : Value) (ks : List Str) (r : List V → List V → Hp → VK → Prop) : Prop :=
  ∀ (pins : List (Addr × Obj)) (s : Shared) (σ : L2.St) (H : Hp) (xs zs : List V) (us ws : List Value) (Q : VK),
    Inv X pins σ H s → Vals xs us → Vals zs ws → r xs zs H Q →
    wpAny (model X.prog X.w) X.A (call f us (ks.zip ws)) (EP X pins σ Q) X.xe s
theorem FnG.atK {g : List Value → List Value → List Value} {gV : List V → List V → List V}
    (F : FnG X.prog X.w X.K X.mg X.base k f fd ps sp) (hg : X.A.guards = some []) (hr : Room k X.A)
    (hb : KBinds X.K fd ps ks g gV) (hx : Passes (L2.CX X.prog X.w) X E) :
    CallKR X (.ref f) ks (fun vs zs H Q => sp (gV vs zs) H Q E) := by
  intro pins s σ H vs zs us ws Q I rv rz h
  have r2 := hb.rel rv rz
  have hl : (g us ws).length = ps.length := by rw [← r2.length]; exact F.len _ _ _ _ h
  refine wpAny_call (codeAny_mono (F.run X.A X.stack s H ⟨us, ks.zip ws⟩ (g us ws) (gV vs zs) Q E hg hr I.env0
    (hb.to s us ws I.kIn hl) r2 h) fun r s' hq => ?_)
  match r, hq with
  | .error e, hq => exact hx pins σ H s e s' I hq
  | .ok (.ret u), hq => exact I.after hq
  | .ok .next, hq => exact hq.elim
  | .ok .brk, hq => exact hq.elim
  | .ok .cont, hq => exact hq.elim

variable {x : Str} {p pos : Pos} {e : Expr} {es : List Expr} {kws : List Keyword} {t tk : TA}
    {r : List V → Hp → VK → Prop} {rk : List V → List V → Hp → VK → Prop}
/-- x(e, ..) where the module's name x holds a def -/
theorem pe_fn (c : CallR X (.ref f) r) (hg : Gl X x) (hm : X.mg x = some (.ref f)) (hk : PySem.W.keepIn X.K (.ref f) = true)
    (ha : PA X (e :: es) t) (hdb : (x == ("__debug__" : Str)) = false := by decide)
    (he : starEach (e :: es) X.env = (false, eval e X.env) :: starEach es X.env := by rfl)
    (hpl : (backTo pos (starEach es X.env)).any (·.1) = false := by rfl) :
    PE X (.Call (.Name x p) (e :: es) [] pos) (tCB r t) := by
  refine ⟨fun pins s σ H Q I h => wpAny_Call_Name_kw (ld_glob I hg hm ?_ hdb)⟩
  refine PySem.W.callWith_K (h₀ := X.base) I.ok.mod.kin hk
    (thn (ha.run pos pins s σ H _ I h) fun us s1 hh => ?_) he hpl
  obtain ⟨vs, H1, I1, rv, q⟩ := hh
  exact ⟨I1.kIn, c pins s1 σ H1 vs us Q I1 rv q⟩
theorem pe_fn0 (c : CallR X (.ref f) r) (hg : Gl X x) (hm : X.mg x = some (.ref f)) (hk : PySem.W.keepIn X.K (.ref f) = true)
    (hdb : (x == ("__debug__" : Str)) = false := by decide) :
    PE X (.Call (.Name x p) [] [] pos) (tCB r tNil) := by
  refine ⟨fun pins s σ H Q I h => wpAny_Call_Name_kw (ld_glob I hg hm ?_ hdb)⟩
  exact PySem.W.callWith_K0 I.kIn hk (c pins s σ H [] [] Q I .nil h)
def tCK (r : List V → List V → Hp → VK → Prop) (t tk : TA) : TE :=
  fun σ H Q => t σ H fun vs H1 => tk σ H1 fun zs H2 => r vs zs H2 Q
theorem pe_fnK (c : CallKR X (.ref f) ks rk) (hg : Gl X x) (hm : X.mg x = some (.ref f)) (hk : PySem.W.keepIn X.K (.ref f) = true)
    (ha : PA X (e :: es) t) (hkw : PK X kws tk)
    (hall : (backToKw pos (keywordEach kws X.env)).all (·.1.isSome) = true := by rfl)
    (hks : (backToKw pos (keywordEach kws X.env)).filterMap (·.1) = ks := by rfl)
    (hdb : (x == ("__debug__" : Str)) = false := by decide)
    (he : starEach (e :: es) X.env = (false, eval e X.env) :: starEach es X.env := by rfl)
    (hpl : ((backTo pos (starEach (e :: es) X.env)).any (·.1) ||
      (backToKw pos (keywordEach kws X.env)).any (·.1.isNone)) = false := by rfl) :
    PE X (.Call (.Name x p) (e :: es) kws pos) (tCK rk t tk) := by
  refine ⟨fun pins s σ H Q I h => wpAny_Call_Name_kw (ld_glob I hg hm ?_ hdb)⟩
  refine PySem.W.callWith_KW (h₀ := X.base) I.ok.mod.kin hk hall
    (thn (ha.run pos pins s σ H _ I h) fun us s1 hh => ?_) hpl he
  obtain ⟨vs, H1, I1, rv, q⟩ := hh
  refine thn (hkw.run pos pins s1 σ H1 _ I1 q) fun ws s2 hh2 => ?_
  obtain ⟨zs, H2, I2, rz, q2⟩ := hh2
  refine ⟨I2.kIn, ?_⟩
  rw [hks]
  exact c pins s2 σ H2 vs zs us ws Q I2 rv rz q2
/-- keywords alone -/
theorem pe_fnK0 (c : CallKR X (.ref f) ks rk) (hg : Gl X x) (hm : X.mg x = some (.ref f)) (hk : PySem.W.keepIn X.K (.ref f) = true)
    (hkw : PK X kws tk)
    (hall : (backToKw pos (keywordEach kws X.env)).all (·.1.isSome) = true := by rfl)
    (hks : (backToKw pos (keywordEach kws X.env)).filterMap (·.1) = ks := by rfl)
    (hdb : (x == ("__debug__" : Str)) = false := by decide)
    (hpl : ((backTo pos (starEach [] X.env)).any (·.1) ||
      (backToKw pos (keywordEach kws X.env)).any (·.1.isNone)) = false := by rfl) :
    PE X (.Call (.Name x p) [] kws pos) (tCK rk tNil tk) := by
  refine ⟨fun pins s σ H Q I h => wpAny_Call_Name_kw (ld_glob I hg hm ?_ hdb)⟩
  refine PySem.W.callWith_KW0 (h₀ := X.base) I.ok.mod.kin hk hall
    (thn (hkw.run pos pins s σ H _ I h) fun ws s2 hh2 => ?_) hpl
  obtain ⟨zs, H2, I2, rz, q2⟩ := hh2
  refine ⟨I2.kIn, ?_⟩
  rw [hks]
  exact c pins s2 σ H2 [] zs [] ws Q I2 .nil rz q2
end

/-! ### repr of what stands -/
section
variable {X : Cx}
theorem repr_ref (hg : X.A.guards = some []) {pins : List (Addr × Obj)} {σ : L2.St} {H : Hp} {s : Shared} {a : Addr} {d : PyData} {as : List Addr} {Q : VK}
    (I : Inv X pins σ H s) (r : Reads s.heap (.ref a) d as) (hs : d.showable = true) (hsm : d.hasDict = true → sysModules ∉ as)
    (hu : X.A.units + (d.depth + 1) < cLine) (hz : d.shown.length ≤ sizeLine) (q : Q (.str d.shown) H) :
    wpAny (model X.prog X.w) X.A (call (.builtin "repr") [.ref a]) (EP X pins σ Q) X.xe s :=
  repr_of_reads' r hs hsm hg hu (fun _ _ e => e) (fun h' u tk k => ⟨.str d.shown, H, I.kept k, ⟨u, rfl⟩, q⟩) hz
end

/-! ### the end: the law's def, called -/
/-- the place of the interpreter's own table is known -/
def One (H : Hp) : Prop := ∃ o a, H sysModules = some (.frz o (.own a))
section
variable {P : Program} {w : World} {K : PySem.W.Frag} {mg mb : Str → Option Value} {k : Nat} {fa a : Addr} {fd : FuncData}
  {x : Str} {sp : Sp} {s₁ : Shared} {vs : List Value} {ns : List Int}
/-- the heap behind the top: locked, at most the script and the interpreter's table are tracked -/
structure Root (K : PySem.W.Frag) (P : Program) (w : World) (a : Addr) (ns : List Int) (s₁ : Shared) (H : Hp) : Prop where
  only : ∀ b, H b = none ∨ ∃ o u, H b = some (.frz o u)
  list : SqL K H a (ns.map V.int)
  hok : HOk P w H s₁.heap
  two : ∀ b, H b ≠ none → b = sysModules ∨ (b = a ∧ K.lookup a = none)
  one : One H
theorem root_of (KX : K.In s₁.heap) (k1 : K.lookup sysModules = none) (ha1 : a ≠ sysModules) (hs : ∃ o, s₁.heap.get? sysModules = some o)
    (ha : s₁.heap.get? a = some { cls := .type "list", data := .seq vs.toArray })
    (hi : IntsAre vs ns) (hl : ns.length ≤ sizeLine) : ∃ H, Root K P w a ns s₁ H := by
  have rv := vals_ints hi
  have lv := hi.length
  obtain ⟨o1, e1⟩ := hs
  cases hk : K.lookup a with
  | some o =>
    have e := (KX a o hk).symm.trans ha
    cases e
    refine ⟨fun b => if b = sysModules then some (.frz o1 (.own 0)) else none, ?_,
      .inr ⟨_, vs.toArray, _, hk, rfl, rfl, rfl, by rw [List.size_toArray, lv]; exact hl, by simpa using rv⟩, ?_, ?_, ⟨o1, 0, if_pos rfl⟩⟩
    · intro b
      by_cases hb : b = sysModules
      · exact .inr ⟨o1, _, if_pos hb⟩
      · exact .inl (if_neg hb)
    · intro b u z
      by_cases hb : b = sysModules
      · have z' := (if_pos hb).symm.trans z
        cases z'
        subst hb
        exact ⟨e1, ⟨o1, e1⟩⟩
      · have z' := (if_neg hb).symm.trans z
        cases z'
    · intro b z
      by_cases hb : b = sysModules
      · exact .inl hb
      · exact absurd (if_neg hb) z
  | none =>
    let so : Obj := { cls := .type "list", data := .seq vs.toArray }
    refine ⟨fun b => if b = sysModules then some (.frz o1 (.own 0)) else if b = a then some (.frz so (.lst (ns.map V.int))) else none,
      ?_, .inl (.inr ⟨so, (if_neg ha1).trans (if_pos rfl)⟩), ?_, ?_, ⟨o1, 0, if_pos rfl⟩⟩
    · intro b
      by_cases hb : b = sysModules
      · exact .inr ⟨o1, _, if_pos hb⟩
      · by_cases hb2 : b = a
        · exact .inr ⟨so, _, (if_neg hb).trans (if_pos hb2)⟩
        · exact .inl ((if_neg hb).trans (if_neg hb2))
    · intro b u z
      by_cases hb : b = sysModules
      · have z' := (if_pos hb).symm.trans z
        cases z'
        subst hb
        exact ⟨e1, ⟨o1, e1⟩⟩
      · by_cases hb2 : b = a
        · have z' := ((if_neg hb).trans (if_pos hb2)).symm.trans z
          cases z'
          subst hb2
          exact ⟨ha, by rw [List.length_map]; exact hl, vs, _, rv, ha⟩
        · have z' := ((if_neg hb).trans (if_neg hb2)).symm.trans z
          cases z'
    · intro b z
      by_cases hb : b = sysModules
      · exact .inl hb
      · by_cases hb2 : b = a
        · exact .inr ⟨hb2, hk⟩
        · exact absurd ((if_neg hb).trans (if_neg hb2)) z
theorem lawG (KX : K.In s₁.heap) (k1 : K.lookup sysModules = none) (ha1 : a ≠ sysModules) (hs : ∃ o, s₁.heap.get? sysModules = some o)
    (hns : s₁.heap.Ns mainGlobals mg) (hb : s₁.heap.Ns builtinsNs mb)
    (hbb : ∀ x : Str, x ≠ "__name__" → mb x = bootBuiltins x) (hlim : s₁.heap.NoLimit) (hg : s₁.gens = #[])
    (ha : s₁.heap.get? a = some { cls := .type "list", data := .seq vs.toArray }) (hi : IntsAre vs ns)
    (hl : ns.length ≤ sizeLine) (hr : Room k callerA)
    (F : ∀ base : Heap, K.In base → base.Ns mainGlobals mg → FnG P w K mg base k fa fd [x] sp)
    (hbind : ∀ (s : Shared) (u : Value), BindsTo s fd ⟨[u], []⟩ [(x, u)])
    (hsp : ∀ H : Hp, One H → SqL K H a (ns.map V.int) → sp [.ref a] H (fun v _ => v = .bl true) E0) :
    codeAny (model P w) callerA (.call (.ref fa) ⟨[.ref a], []⟩)
      (fun r s' => r = .ok (.ret (.bool true)) ∧ OldK s₁.heap s'.heap ∧ s'.os = s₁.os ∧ AllBare s'.gens) s₁ := by
  obtain ⟨H, R⟩ := root_of (P := P) (w := w) KX k1 ha1 hs ha hi hl
  have gone : ∀ {b : Addr} {o : Obj}, s₁.heap.get? b = some o → b ≠ sysModules →
      (b = a → K.lookup a = some o ∨ ∃ es ep, o.data = .dict es ep) → H b = none := by
    intro b o e hs h
    cases q : H b with
    | none => rfl
    | some u =>
      rcases R.two b (by rw [q]; simp) with z | ⟨eb, kn⟩
      · exact absurd z hs
      rcases h eb with z | ⟨es, ep, z⟩
      · rw [kn] at z
        cases z
      · subst eb
        rw [ha] at e
        cases e
        cases z
  have nsK : ∀ {b : Addr} {m : Str → Option Value}, b ≠ sysModules → s₁.heap.Ns b m → (hidT s₁.heap H).Ns b m := by
    rintro b m hs ⟨o, es, ep, e, d, r⟩
    exact ⟨o, es, ep, hidT_get e (gone e hs fun _ => .inr ⟨es, ep, d⟩), d, r⟩
  have kb : K.In (hidT s₁.heap H) := fun b o e =>
    hidT_get (KX b o e) (gone (KX b o e) (fun z => by rw [z, k1] at e; cases e) fun q => .inl (q ▸ e))
  obtain ⟨mc, l1, l2⟩ := hlim
  have M : Mod K mg (hidT s₁.heap H) :=
    ⟨kb, nsK (by decide) hns, ⟨mb, nsK (by decide) hb, hbb⟩, ⟨mc, nsK (by decide) l1, l2⟩⟩
  have nofr : ∀ b ∈ frs ([] : List Env), H b = none := by
    intro b hb
    cases (show b ∈ ([] : List Addr) from hb)
  have e0 : Env0 P w K mg (hidT s₁.heap H) callerA [] s₁ H :=
    ⟨rfl, M, fun b o e => of_hidT e, Nat.le_of_eq (hidT_size _ _), trivial, nofr, R.hok, .of_eq hg⟩
  refine codeAny_mono ((F _ kb (nsK (by decide) hns)).run callerA [] s₁ H ⟨[.ref a], []⟩ [.ref a] [.ref a] _ _ rfl hr e0
    (hbind s₁ (.ref a)) (.cons rfl .nil) (hsp H R.one R.list)) fun r s' h => ?_
  match r, h with
  | .error e, h =>
    obtain ⟨_, _, _, _, _, _, _, _, _, _, _, _, z⟩ := h
    exact z.elim
  | .ok .next, h => exact h.elim
  | .ok .brk, h => exact h.elim
  | .ok .cont, h => exact h.elim
  | .ok (.ret u), h =>
    obtain ⟨v, H', os, bare, un, hok', r', q⟩ := h
    obtain rfl : v = .bl true := q
    obtain rfl : u = Value.bool true := r'
    refine ⟨rfl, OldK.of_keep fun b o e => ?_, os, bare⟩
    rcases R.only b with z | ⟨ob, xs, z⟩
    · exact un.keep b o e z (fun hb => by cases (show b ∈ ([] : List Addr) from hb)) (by simp)
    · obtain ⟨e1, _⟩ := R.hok b _ z
      obtain ⟨e2, _⟩ := hok' b _ (un.frzs b ob _ z)
      rw [e] at e1
      cases e1
      exact e2
end
theorem script_at {r : PySem.W.WRecords} {cl : Str → Option Addr} {h : Heap} {a : Addr} {d : List PySem.W.WData} {as : List Addr}
    (x : PySem.W.ReadsAllW r cl h [Value.ref a] [PySem.W.WData.list d] as) : a ∈ as := by
  cases x with
  | cons r1 r2 =>
    cases r1 with
    | list => exact List.mem_append_left _ List.mem_cons_self
theorem walkG {l : PySem.W.OpenLaw} {n k : Nat} {q : Program} {loose : List Str} {XP : (Str → Option Value) → Heap → Prop}
    {YP : World → Heap → Prop} {d : DefRec} {K : Params → PySem.W.Frag} {sp : World → Sp} {x : Str}
    (hn : l.most = some n) (hn2 : n ≤ sizeLine) (hdf : d.params.defaults = []) (hr : Room k callerA)
    (hY : ∀ (w : World) (h : Heap), YP w h → (K w.params).In h)
    (hK : ∀ w : World, (K w.params).lookup sysModules = none) (him : importsNone q = true)
    (F : ∀ (w : World) (mg : Str → Option Value) (fa : Addr) (h : Heap), (K w.params).In h → h.Ns mainGlobals mg →
      mg d.name = some (.ref fa) → ∃ fd : FuncData, (∀ (s : Shared) (u : Value), BindsTo s fd ⟨[u], []⟩ [(x, u)]) ∧
        ∀ base : Heap, (K w.params).In base → base.Ns mainGlobals mg → FnG l.prog w (K w.params) mg base k fa fd [x] (sp w))
    (hsp : ∀ (w : World) (H : Hp) (a : Addr) (ns : List Int), ns.length ≤ n → (∀ z ∈ ns, Builtin.Int.intBits z ≤ 1048576) →
      One H → SqL (K w.params) H a (ns.map V.int) → sp w [.ref a] H (fun v _ => v = .bl true) E0) :
    PySem.W.WalkO q loose XP YP l.row.toRowW d [] (fun f vs => PySem.call f vs) := by
  intro w s₀ s₁ mg mb G Y fa o pm cd doc dV kV ho hd hcd hD hmg hg args vals as hpre hlay hrd hwl hlo
  obtain rfl : dV = .none := PySem.W.Dflts.none hD hdf
  obtain rfl : kV = .none := PySem.W.Dflts.noKw hD
  obtain ⟨a, vs, ns, rfl, rfl, hobj, hints, hlen⟩ := Att.script_of hn hpre hwl
  obtain ⟨fd, hb, hF⟩ := F w mg fa _ (hY w _ Y) G.T.g hmg
  have key := lawG (hY w _ Y) (hK w) (fun z => by have := hlo a (script_at hrd); rw [z] at this; cases this)
    (let ⟨_, ⟨o, _, _, e, _⟩, _⟩ := (G.T.seer him).mods; ⟨o, e⟩) G.T.g G.T.b G.T.builtins G.T.nolimit hg hobj hints
    (Nat.le_trans hlen hn2) hr hF hb fun H h1 hS => hsp w H a ns hlen (Att.script_bits hlay) h1 hS
  refine PySem.W.enter_call (codeAny_mono key fun r s' hq => ?_)
  obtain ⟨rfl, h2, h3, h4⟩ := hq
  exact ⟨.inl ⟨.bool true, .bool true, [], rfl, fun _ => rfl, .bool true, Att.post_true l _,
    fun _ => ⟨List.Pairwise.nil, fun _ hm => (nomatch hm)⟩⟩, h2, h3, h4⟩
end PC

set_option Elab.async false
set_option linter.all false
set_option maxRecDepth 100000
set_option maxHeartbeats 2000000
/-! PcB: data that stays; steps of the heap; wider rules by values. -/
namespace PC
open PySem PySem.Spec PyProof.Rows L2

/-! ### what stays, and the pot -/
/-- the law's store of draws: a number to be read digit by digit, a number that is mixed -/
def Pot (p : Addr) (H : Hp) : Prop := ∃ a b : Int, H p = some (.lst [.int a, .int b]) ∧ 0 ≤ a ∧ 0 ≤ b ∧ b < 2147483647
/-- all that is tracked stays, but what stands at p -/
structure R (p : Addr) (H H' : Hp) : Prop where
  keep : ∀ b o, b ≠ p → H b = some o → H' b = some o
  frz : ∀ b o u, H b = some (.frz o u) → H' b = some (.frz o u)
  occ : H p ≠ none → H' p ≠ none
  pot : Pot p H → Pot p H'
  stay : ∀ b o, (∀ xs, o ≠ .lst xs) → H b = some o → H' b = some o
theorem R.refl (p : Addr) (H : Hp) : R p H H := ⟨fun _ _ _ h => h, fun _ _ _ h => h, fun h => h, fun h => h, fun _ _ _ h => h⟩
theorem R.trans {p : Addr} {H H1 H2 : Hp} (a : R p H H1) (b : R p H1 H2) : R p H H2 :=
  ⟨fun c o n h => b.keep c o n (a.keep c o n h), fun c o u h => b.frz c o u (a.frz c o u h), fun h => b.occ (a.occ h), fun h => b.pot (a.pot h),
   fun c o n h => b.stay c o n (a.stay c o n h)⟩
theorem R.of_same {p : Addr} {H H' : Hp} (h : Same H H') : R p H H' :=
  ⟨fun b o _ e => h b o e, fun b o u e => h b _ e, fun z w => z (h.free w), fun ⟨a, b, e, r⟩ => ⟨a, b, h _ _ e, r⟩, fun b o _ e => h b o e⟩
theorem same_new {n : Addr} {H : Hp} {o : HO} (h : H n = none) : Same H (upd H n o) := fun b u e => by
  rw [upd_ne (ne_of_none e h)]; exact e
theorem R.new {p n : Addr} {H : Hp} {o : HO} (h : H n = none) : R p H (upd H n o) := .of_same (same_new h)
theorem R.draw {p : Addr} {H : Hp} {a b : Int} {l : List V} (h : H p = some (.lst l)) (ho : ∀ x u, (HO.lst l) ≠ .frz x u) (ha : 0 ≤ a) (hb : 0 ≤ b) (hb2 : b < 2147483647) :
    R p H (upd H p (.lst [.int a, .int b])) := by
  have far : ∀ c u, (∀ xs, u ≠ .lst xs) → H c = some u → upd H p (.lst [.int a, .int b]) c = some u := fun c u n e => by
    by_cases z : c = p
    · subst z
      rw [h] at e
      exact absurd (Option.some.inj e).symm (n l)
    · rw [upd_ne z]
      exact e
  exact ⟨fun c u n e => (by rw [upd_ne n]; exact e), fun c x u e => far c _ (fun xs z => nomatch z) e,
    fun _ => (by rw [upd_same]; exact fun w => nomatch w), fun _ => ⟨a, b, upd_same, ha, hb, hb2⟩, far⟩
/-- a new list that grew meanwhile -/
theorem R.over {p D : Addr} {H H' : Hp} {o : HO} (r : R p H H') (hD : H D = none) (hp : D ≠ p) : R p H (upd H' D o) :=
  ⟨fun b u n e => by rw [upd_ne (ne_of_none e hD)]; exact r.keep b u n e, fun b x u e => by rw [upd_ne (ne_of_none e hD)]; exact r.frz b x u e,
   fun z => by rw [upd_ne hp.symm]; exact r.occ z, fun z => by
    obtain ⟨a, b, e, q⟩ := r.pot z
    exact ⟨a, b, by rw [upd_ne hp.symm]; exact e, q⟩, fun b u n e => by rw [upd_ne (ne_of_none e hD)]; exact r.stay b u n e⟩
theorem R.one {p : Addr} {H H' : Hp} (r : R p H H') (h : One H) : One H' := by
  obtain ⟨o, u, e⟩ := h
  exact ⟨o, u, r.frz _ _ _ e⟩
theorem R.free {p a : Addr} {H H' : Hp} (r : R p H H') (n : a ≠ p) (h : H' a = none) : H a = none := by
  cases e : H a with
  | none => rfl
  | some o => rw [r.keep a o n e] at h; cases h
/-! ### data -/
def keyD : Key → PyData
  | .inl i => .int i
  | .inr x => .str x
mutual
/-- v shows the data d; none of its own objects stands at a place of Z -/
def Dat (K : PySem.W.Frag) (Z : List Addr) (H : Hp) : PyData → V → Prop
  | .none, v => v = .non
  | .bool b, v => v = .bl b
  | .int i, v => v = .int i
  | .str x, v => v = .str x
  | .list ds, v => ∃ a xs, v = .ref a ∧ a ∉ Z ∧ Rd H a (.lst xs) ∧ DatL K Z H ds xs
  | .tuple ds, v => ∃ a xs, v = .ref a ∧ (a ∉ Z ∨ SqT K (fun _ => none) a xs) ∧ SqT K H a xs ∧ DatL K Z H ds xs
  | .dict kvs, v => ∃ a es, v = .ref a ∧ a ∉ Z ∧ H a = some (.dK es) ∧ DatK K Z H kvs es
def DatL (K : PySem.W.Frag) (Z : List Addr) (H : Hp) : List PyData → List V → Prop
  | [], vs => vs = []
  | d :: ds, vs => ∃ v r, vs = v :: r ∧ Dat K Z H d v ∧ DatL K Z H ds r
def DatK (K : PySem.W.Frag) (Z : List Addr) (H : Hp) : List (PyData × PyData) → List (Key × V) → Prop
  | [], es => es = []
  | (k, d) :: r, es => ∃ kk v t, es = (kk, v) :: t ∧ keyD kk = k ∧ Dat K Z H d v ∧ DatK K Z H r t
end
section
variable {K : PySem.W.Frag} {p : Addr} {Z Z' : List Addr} {H H' : Hp}
theorem _root_.L2.Rd.up {a : Addr} {u : HO} (r : R p H H') (n : a ≠ p) (h : Rd H a u) : Rd H' a u := by
  rcases h with h | ⟨o, h⟩
  · exact .inl (r.keep _ _ n h)
  · exact .inr ⟨o, r.frz _ _ _ h⟩
theorem SqL.up {a : Addr} {xs : List V} (r : R p H H') (n : a ≠ p) (h : SqL K H a xs) : SqL K H' a xs := by
  rcases h with h | h
  · exact .inl (Rd.up r n h)
  · exact .inr h
theorem SqT.up {a : Addr} {xs : List V} (r : R p H H') (hp : p ∈ Z) (n : a ∉ Z ∨ SqT K (fun _ => none) a xs) (h : SqT K H a xs) : SqT K H' a xs := by
  rcases h with h | h
  · rcases n with n | n
    · exact .inl (Rd.up r (fun z => n (z ▸ hp)) h)
    · rcases n with (n | ⟨o, n⟩) | n
      · cases n
      · cases n
      · exact .inr n
  · exact .inr h
mutual
theorem Dat.up (r : R p H H') (hp : p ∈ Z) : ∀ (d : PyData) (v : V), Dat K Z H d v → Dat K Z H' d v
  | .none, v, h => h
  | .bool _, v, h => h
  | .int _, v, h => h
  | .str _, v, h => h
  | .list ds, v, h => by
    simp only [Dat] at h ⊢
    obtain ⟨a, xs, e, n, s, l⟩ := h
    exact ⟨a, xs, e, n, s.up r (fun z => n (z ▸ hp)), DatL.up r hp ds xs l⟩
  | .tuple ds, v, h => by
    simp only [Dat] at h ⊢
    obtain ⟨a, xs, e, n, s, l⟩ := h
    exact ⟨a, xs, e, n, SqT.up r hp n s, DatL.up r hp ds xs l⟩
  | .dict kvs, v, h => by
    simp only [Dat] at h ⊢
    obtain ⟨a, es, e, n, s, l⟩ := h
    exact ⟨a, es, e, n, r.keep _ _ (fun z => n (z ▸ hp)) s, DatK.up r hp kvs es l⟩
theorem DatL.up (r : R p H H') (hp : p ∈ Z) : ∀ (ds : List PyData) (vs : List V), DatL K Z H ds vs → DatL K Z H' ds vs
  | [], vs, h => h
  | d :: ds, vs, h => by
    simp only [DatL] at h ⊢
    obtain ⟨v, q, e, h1, h2⟩ := h
    exact ⟨v, q, e, Dat.up r hp d v h1, DatL.up r hp ds q h2⟩
theorem DatK.up (r : R p H H') (hp : p ∈ Z) : ∀ (ds : List (PyData × PyData)) (es : List (Key × V)), DatK K Z H ds es → DatK K Z H' ds es
  | [], vs, h => h
  | (k, d) :: ds, vs, h => by
    simp only [DatK] at h ⊢
    obtain ⟨kk, v, q, e, hk, h1, h2⟩ := h
    exact ⟨kk, v, q, e, hk, Dat.up r hp d v h1, DatK.up r hp ds q h2⟩
end
mutual
/-- one place more -/
theorem Dat.more {D : Addr} (hD : H D = none) : ∀ (d : PyData) (v : V), Dat K Z H d v → Dat K (D :: Z) H d v
  | .none, v, h => h
  | .bool _, v, h => h
  | .int _, v, h => h
  | .str _, v, h => h
  | .list ds, v, h => by
    simp only [Dat] at h ⊢
    obtain ⟨a, xs, e, n, s, l⟩ := h
    refine ⟨a, xs, e, fun z => ?_, s, DatL.more hD ds xs l⟩
    rcases List.mem_cons.mp z with z | z
    · subst z
      rcases s with s | ⟨o, s⟩ <;> (rw [hD] at s; cases s)
    · exact n z
  | .tuple ds, v, h => by
    simp only [Dat] at h ⊢
    obtain ⟨a, xs, e, n, s, l⟩ := h
    refine ⟨a, xs, e, ?_, s, DatL.more hD ds xs l⟩
    by_cases z : a = D
    · subst z
      rcases s with (s | ⟨o, s⟩) | s
      · rw [hD] at s; cases s
      · rw [hD] at s; cases s
      · exact .inr (.inr s)
    · rcases n with n | n
      · exact .inl fun q => (List.mem_cons.mp q).elim z n
      · exact .inr n
  | .dict kvs, v, h => by
    simp only [Dat] at h ⊢
    obtain ⟨a, es, e, n, s, l⟩ := h
    refine ⟨a, es, e, fun z => ?_, s, DatK.more hD kvs es l⟩
    rcases List.mem_cons.mp z with z | z
    · subst z
      rw [hD] at s; cases s
    · exact n z
theorem DatL.more {D : Addr} (hD : H D = none) : ∀ (ds : List PyData) (vs : List V), DatL K Z H ds vs → DatL K (D :: Z) H ds vs
  | [], vs, h => h
  | d :: ds, vs, h => by
    simp only [DatL] at h ⊢
    obtain ⟨v, q, e, h1, h2⟩ := h
    exact ⟨v, q, e, Dat.more hD d v h1, DatL.more hD ds q h2⟩
theorem DatK.more {D : Addr} (hD : H D = none) : ∀ (ds : List (PyData × PyData)) (es : List (Key × V)), DatK K Z H ds es → DatK K (D :: Z) H ds es
  | [], vs, h => h
  | (k, d) :: ds, vs, h => by
    simp only [DatK] at h ⊢
    obtain ⟨kk, v, q, e, hk, h1, h2⟩ := h
    exact ⟨kk, v, q, e, hk, Dat.more hD d v h1, DatK.more hD ds q h2⟩
end
mutual
/-- fewer places -/
theorem Dat.less (hz : ∀ a, a ∈ Z' → a ∈ Z) : ∀ (d : PyData) (v : V), Dat K Z H d v → Dat K Z' H d v
  | .none, v, h => h
  | .bool _, v, h => h
  | .int _, v, h => h
  | .str _, v, h => h
  | .list ds, v, h => by
    simp only [Dat] at h ⊢
    obtain ⟨a, xs, e, n, s, l⟩ := h
    exact ⟨a, xs, e, fun z => n (hz _ z), s, DatL.less hz ds xs l⟩
  | .tuple ds, v, h => by
    simp only [Dat] at h ⊢
    obtain ⟨a, xs, e, n, s, l⟩ := h
    exact ⟨a, xs, e, n.imp (fun n z => n (hz _ z)) id, s, DatL.less hz ds xs l⟩
  | .dict kvs, v, h => by
    simp only [Dat] at h ⊢
    obtain ⟨a, es, e, n, s, l⟩ := h
    exact ⟨a, es, e, fun z => n (hz _ z), s, DatK.less hz kvs es l⟩
theorem DatL.less (hz : ∀ a, a ∈ Z' → a ∈ Z) : ∀ (ds : List PyData) (vs : List V), DatL K Z H ds vs → DatL K Z' H ds vs
  | [], vs, h => h
  | d :: ds, vs, h => by
    simp only [DatL] at h ⊢
    obtain ⟨v, q, e, h1, h2⟩ := h
    exact ⟨v, q, e, Dat.less hz d v h1, DatL.less hz ds q h2⟩
theorem DatK.less (hz : ∀ a, a ∈ Z' → a ∈ Z) : ∀ (ds : List (PyData × PyData)) (es : List (Key × V)), DatK K Z H ds es → DatK K Z' H ds es
  | [], vs, h => h
  | (k, d) :: ds, vs, h => by
    simp only [DatK] at h ⊢
    obtain ⟨kk, v, q, e, hk, h1, h2⟩ := h
    exact ⟨kk, v, q, e, hk, Dat.less hz d v h1, DatK.less hz ds q h2⟩
end
mutual
/-- a place that is no data's, changed -/
theorem Dat.put {D : Addr} {o : HO} (hd : D ∈ Z) : ∀ (d : PyData) (v : V), Dat K Z H d v → Dat K Z (upd H D o) d v
  | .none, v, h => h
  | .bool _, v, h => h
  | .int _, v, h => h
  | .str _, v, h => h
  | .list ds, v, h => by
    simp only [Dat] at h ⊢
    obtain ⟨a, xs, e, n, s, l⟩ := h
    have nz : a ≠ D := fun z => n (z ▸ hd)
    refine ⟨a, xs, e, n, ?_, DatL.put hd ds xs l⟩
    rcases s with s | ⟨u, s⟩
    · exact .inl (by rw [upd_ne nz]; exact s)
    · exact .inr ⟨u, by rw [upd_ne nz]; exact s⟩
  | .tuple ds, v, h => by
    simp only [Dat] at h ⊢
    obtain ⟨a, xs, e, n, s, l⟩ := h
    refine ⟨a, xs, e, n, ?_, DatL.put hd ds xs l⟩
    rcases n with n | ((n | ⟨u, n⟩) | n)
    · have nz : a ≠ D := fun z => n (z ▸ hd)
      rcases s with (s | ⟨u, s⟩) | s
      · exact .inl (.inl (by rw [upd_ne nz]; exact s))
      · exact .inl (.inr ⟨u, by rw [upd_ne nz]; exact s⟩)
      · exact .inr s
    · cases n
    · cases n
    · exact .inr n
  | .dict kvs, v, h => by
    simp only [Dat] at h ⊢
    obtain ⟨a, es, e, n, s, l⟩ := h
    have nz : a ≠ D := fun z => n (z ▸ hd)
    exact ⟨a, es, e, n, by rw [upd_ne nz]; exact s, DatK.put hd kvs es l⟩
theorem DatL.put {D : Addr} {o : HO} (hd : D ∈ Z) : ∀ (ds : List PyData) (vs : List V), DatL K Z H ds vs → DatL K Z (upd H D o) ds vs
  | [], vs, h => h
  | d :: ds, vs, h => by
    simp only [DatL] at h ⊢
    obtain ⟨v, q, e, h1, h2⟩ := h
    exact ⟨v, q, e, Dat.put hd d v h1, DatL.put hd ds q h2⟩
theorem DatK.put {D : Addr} {o : HO} (hd : D ∈ Z) : ∀ (ds : List (PyData × PyData)) (es : List (Key × V)), DatK K Z H ds es → DatK K Z (upd H D o) ds es
  | [], vs, h => h
  | (k, d) :: ds, vs, h => by
    simp only [DatK] at h ⊢
    obtain ⟨kk, v, q, e, hk, h1, h2⟩ := h
    exact ⟨kk, v, q, e, hk, Dat.put hd d v h1, DatK.put hd ds q h2⟩
end
theorem dat_int {i : Int} : Dat K Z H (.int i) (.int i) := by simp only [Dat]
theorem dat_bl {i : Bool} : Dat K Z H (.bool i) (.bl i) := by simp only [Dat]
theorem dat_str {i : Str} : Dat K Z H (.str i) (.str i) := by simp only [Dat]
theorem dat_non : Dat K Z H .none .non := by simp only [Dat]
theorem dat_lst {a : Addr} {xs : List V} {ds : List PyData} (n : a ∉ Z) (h : Rd H a (.lst xs)) (l : DatL K Z H ds xs) : Dat K Z H (.list ds) (.ref a) := by
  simp only [Dat]; exact ⟨a, xs, rfl, n, h, l⟩
theorem dat_tup {a : Addr} {xs : List V} {ds : List PyData} (n : a ∉ Z) (h : SqT K H a xs) (l : DatL K Z H ds xs) : Dat K Z H (.tuple ds) (.ref a) := by
  simp only [Dat]; exact ⟨a, xs, rfl, .inl n, h, l⟩
theorem Dat.lst {v : V} {ds : List PyData} (h : Dat K Z H (.list ds) v) : ∃ a xs, v = .ref a ∧ a ∉ Z ∧ Rd H a (.lst xs) ∧ DatL K Z H ds xs := by
  simpa only [Dat] using h
theorem Dat.tup {v : V} {ds : List PyData} (h : Dat K Z H (.tuple ds) v) : ∃ a xs, v = .ref a ∧ (a ∉ Z ∨ SqT K (fun _ => none) a xs) ∧ SqT K H a xs ∧ DatL K Z H ds xs := by
  simpa only [Dat] using h
theorem Dat.dct {v : V} {ds : List (PyData × PyData)} (h : Dat K Z H (.dict ds) v) : ∃ a es, v = .ref a ∧ a ∉ Z ∧ H a = some (.dK es) ∧ DatK K Z H ds es := by
  simpa only [Dat] using h
theorem DatL.cons_inv {d : PyData} {ds : List PyData} {vs : List V} (h : DatL K Z H (d :: ds) vs) : ∃ v r, vs = v :: r ∧ Dat K Z H d v ∧ DatL K Z H ds r := by
  simpa only [DatL] using h
theorem DatL.nil_inv {vs : List V} (h : DatL K Z H [] vs) : vs = [] := by simpa only [DatL] using h
theorem datL_nil : DatL K Z H [] [] := by simp only [DatL]
theorem datL_cons {d : PyData} {ds : List PyData} {v : V} {vs : List V} (h : Dat K Z H d v) (l : DatL K Z H ds vs) : DatL K Z H (d :: ds) (v :: vs) := by
  simp only [DatL]; exact ⟨v, vs, rfl, h, l⟩
theorem DatL.length : ∀ {ds : List PyData} {vs : List V}, DatL K Z H ds vs → vs.length = ds.length
  | [], vs, h => by rw [h.nil_inv]; rfl
  | d :: ds, vs, h => by
    obtain ⟨v, q, e, h1, h2⟩ := h.cons_inv
    rw [e, List.length_cons, List.length_cons, DatL.length h2]
theorem DatL.get : ∀ {ds : List PyData} {vs : List V} {i : Nat} {d : PyData}, DatL K Z H ds vs → ds[i]? = some d → ∃ v, vs[i]? = some v ∧ Dat K Z H d v
  | [], _, _, _, _, e => by simp at e
  | d :: ds, vs, i, x, h, e => by
    obtain ⟨v, q, rfl, h1, h2⟩ := h.cons_inv
    cases i with
    | zero => simp at e; subst e; exact ⟨v, rfl, h1⟩
    | succ i => exact DatL.get (i := i) h2 (by simpa using e)
theorem DatL.append : ∀ {ds es : List PyData} {vs ws : List V}, DatL K Z H ds vs → DatL K Z H es ws → DatL K Z H (ds ++ es) (vs ++ ws)
  | [], es, vs, ws, h, g => by
    have e := h.nil_inv
    subst e; exact g
  | d :: ds, es, vs, ws, h, g => by
    obtain ⟨v, q, rfl, h1, h2⟩ := h.cons_inv
    exact datL_cons h1 (DatL.append h2 g)
theorem DatL.drop : ∀ {ds : List PyData} {vs : List V} (n : Nat), DatL K Z H ds vs → DatL K Z H (ds.drop n) (vs.drop n)
  | _, _, 0, h => h
  | [], vs, n + 1, h => by
    have e := h.nil_inv
    subst e; exact datL_nil
  | d :: ds, vs, n + 1, h => by
    obtain ⟨v, q, rfl, h1, h2⟩ := h.cons_inv
    exact DatL.drop n h2
theorem DatL.take : ∀ {ds : List PyData} {vs : List V} (n : Nat), DatL K Z H ds vs → DatL K Z H (ds.take n) (vs.take n)
  | _, _, 0, h => by rw [List.take_zero, List.take_zero]; exact datL_nil
  | [], vs, n + 1, h => by
    have e := h.nil_inv
    subst e; exact datL_nil
  | d :: ds, vs, n + 1, h => by
    obtain ⟨v, q, rfl, h1, h2⟩ := h.cons_inv
    exact datL_cons h1 (DatL.take n h2)
theorem datL_ints : ∀ (ns : List Int), DatL K Z H (ns.map .int) (ns.map .int)
  | [] => datL_nil
  | n :: ns => datL_cons dat_int (datL_ints ns)
theorem datL_bls : ∀ (ns : List Bool), DatL K Z H (ns.map .bool) (ns.map .bl)
  | [] => datL_nil
  | n :: ns => datL_cons dat_bl (datL_bls ns)
theorem datL_strs : ∀ (ns : List Str), DatL K Z H (ns.map .str) (ns.map .str)
  | [] => datL_nil
  | n :: ns => datL_cons dat_str (datL_strs ns)
theorem DatL.ints : ∀ {ns : List Int} {vs : List V}, DatL K Z H (ns.map .int) vs → vs = ns.map .int
  | [], vs, h => h.nil_inv
  | n :: ns, vs, h => by
    obtain ⟨v, q, rfl, h1, h2⟩ := DatL.cons_inv (d := .int n) (ds := ns.map .int) h
    simp only [Dat] at h1
    rw [h1, DatL.ints h2]; rfl
theorem DatL.bls : ∀ {ns : List Bool} {vs : List V}, DatL K Z H (ns.map .bool) vs → vs = ns.map .bl
  | [], vs, h => h.nil_inv
  | n :: ns, vs, h => by
    obtain ⟨v, q, rfl, h1, h2⟩ := DatL.cons_inv (d := .bool n) (ds := ns.map .bool) h
    simp only [Dat] at h1
    rw [h1, DatL.bls h2]; rfl
theorem DatL.strs : ∀ {ns : List Str} {vs : List V}, DatL K Z H (ns.map .str) vs → vs = ns.map .str
  | [], vs, h => h.nil_inv
  | n :: ns, vs, h => by
    obtain ⟨v, q, rfl, h1, h2⟩ := DatL.cons_inv (d := .str n) (ds := ns.map .str) h
    simp only [Dat] at h1
    rw [h1, DatL.strs h2]; rfl
end

/-! ### its objects, in the heap of the machine -/
section
variable {X : Cx} {pins : List (Addr × Obj)} {σ : L2.St} {H : Hp} {s : Shared} {Z : List Addr}
theorem keyD_reads {k : Key} {u : Value} {h : Heap} (e : keyIs k u = true) : Reads h u (keyD k) [] := by
  rcases keyIs_shape e with ⟨i, t, rfl, rfl⟩ | ⟨x, t, rfl, rfl⟩
  · exact .int i t
  · exact .str x t
theorem notSys {a : Addr} {xs : List V} (I : Inv X pins σ H s) (o1 : One H) (h : SqL X.K H a xs) : a ≠ sysModules := by
  obtain ⟨o, u, e⟩ := o1
  intro z
  subst z
  rcases h with (h | ⟨o', h⟩) | ⟨o', _, _, h, _⟩
  · rw [e] at h; cases h
  · rw [e] at h; cases h
  · have q := (I.bs _ _ (I.mod.kin _ _ h)).2
    rw [e] at q; cases q
mutual
theorem Dat.reads (I : Inv X pins σ H s) (o1 : One H) : ∀ (d : PyData) (v : V) (u : Value), Dat X.K Z H d v → RelV v u →
    ∃ as, Reads s.heap u d as ∧ sysModules ∉ as
  | .none, _, _, h, r => by
    simp only [Dat] at h
    subst h
    cases (show _ = Value.none from r)
    exact ⟨_, .none, by simp⟩
  | .bool b, _, _, h, r => by
    simp only [Dat] at h
    subst h
    cases (show _ = Value.bool b from r)
    exact ⟨_, .bool b, by simp⟩
  | .int i, _, _, h, r => by
    simp only [Dat] at h
    subst h
    obtain ⟨t, rfl⟩ := (show ∃ t, _ = Value.int i t from r)
    exact ⟨_, .int i t, by simp⟩
  | .str x, _, _, h, r => by
    simp only [Dat] at h
    subst h
    obtain ⟨t, rfl⟩ := (show ∃ t, _ = Value.str x t from r)
    exact ⟨_, .str x t, by simp⟩
  | .list ds, _, _, h, r => by
    obtain ⟨a, xs, rfl, n, hs, hl⟩ := h.lst
    cases (show _ = Value.ref a from r)
    obtain ⟨its, rv, ⟨o, k, ho, hc, _, hd⟩, _⟩ := I.list (.inl hs)
    obtain ⟨as, hr, ns⟩ := DatL.reads I o1 ds xs its hl rv
    refine ⟨_, .list ho hc hd hr, fun z => ?_⟩
    rcases List.mem_cons.mp z with z | z
    · exact notSys I o1 (.inl hs) z.symm
    · exact ns z
  | .tuple ds, _, _, h, r => by
    obtain ⟨a, xs, rfl, n, hs, hl⟩ := h.tup
    cases (show _ = Value.ref a from r)
    obtain ⟨its, rv, ⟨o, ho, hc, k, hd⟩, _⟩ := I.tuple hs
    obtain ⟨as, hr, ns⟩ := DatL.reads I o1 ds xs its hl rv
    exact ⟨_, .tuple ho hc hd hr, ns⟩
  | .dict kvs, _, _, h, r => by
    obtain ⟨a, es, rfl, n, hs, hl⟩ := h.dct
    cases (show _ = Value.ref a from r)
    obtain ⟨_, hsys, vs, rel, o, en, ep, ho, hx, hd, _, hp, _⟩ := (show ObjOk X.prog X.w H s.heap a (.dK es) from I.hok a _ hs)
    obtain ⟨as, bs, r1, r2, n1, n2⟩ := DatK.reads I o1 kvs es vs en.toList hl rel hp
    refine ⟨_, .dict ho hx.1 hd r1 r2, fun z => ?_⟩
    rcases List.mem_append.mp z with z | z
    · rcases List.mem_cons.mp z with z | z
      · rw [← z] at hsys; simp at hsys
      · exact n1 z
    · exact n2 z
theorem DatL.reads (I : Inv X pins σ H s) (o1 : One H) : ∀ (ds : List PyData) (vs : List V) (us : List Value), DatL X.K Z H ds vs → Vals vs us →
    ∃ as, ReadsAll s.heap us ds as ∧ sysModules ∉ as
  | [], vs, us, h, r => by
    simp only [DatL] at h
    subst h
    cases r
    exact ⟨_, .nil, by simp⟩
  | d :: ds, vs, us, h, r => by
    simp only [DatL] at h
    obtain ⟨v, q, rfl, h1, h2⟩ := h
    cases r with
    | cons r1 r2 =>
      obtain ⟨as, q1, n1⟩ := Dat.reads I o1 d v _ h1 r1
      obtain ⟨bs, q2, n2⟩ := DatL.reads I o1 ds q _ h2 r2
      exact ⟨_, .cons q1 q2, fun z => (List.mem_append.mp z).elim n1 n2⟩
theorem DatK.reads (I : Inv X pins σ H s) (o1 : One H) : ∀ (ds : List (PyData × PyData)) (es : List (Key × V)) (vs : List (Key × Value)) (en : List DictEntry),
    DatK X.K Z H ds es → KV es vs → Pairs (mixKind X.prog X.w) en vs →
    ∃ as bs, ReadsAll s.heap (en.map (·.key)) (ds.map (·.1)) as ∧ ReadsAll s.heap (en.map (·.val)) (ds.map (·.2)) bs ∧ sysModules ∉ as ∧ sysModules ∉ bs
  | [], es, vs, en, h, r, pr => by
    simp only [DatK] at h
    subst h
    cases r
    cases pr
    exact ⟨_, _, .nil, .nil, by simp, by simp⟩
  | (k, d) :: ds, es, vs, en, h, r, pr => by
    simp only [DatK] at h
    obtain ⟨kk, v, q, rfl, hk, h1, h2⟩ := h
    cases r with
    | cons r1 r2 =>
      obtain ⟨e1, e2⟩ := r1
      cases pr with
      | cons p1 p2 p3 =>
        obtain ⟨as, q1, n1⟩ := Dat.reads I o1 d v _ h1 e2
        obtain ⟨bs, cs, q2, q3, n2, n3⟩ := DatK.reads I o1 ds q _ _ h2 r2 p3
        have kr : Reads s.heap _ (keyD _) [] := keyD_reads (h := s.heap) p1
        rw [show keyD _ = k from (congrArg keyD e1.symm).trans hk] at kr
        rw [← p2] at q1
        exact ⟨_, _, .cons kr q2, .cons q1 q3, fun z => n2 (by simpa using z), fun z => (List.mem_append.mp z).elim n1 n3⟩
end
end

/-! ### sizes of data: depth at most k, bulk at most n -/
mutual
/-- its texts are made of code points -/
def lay : PyData → Bool
  | .none => true
  | .bool _ => true
  | .int _ => true
  | .str x => PyData.strOk x
  | .list xs => layL xs
  | .tuple xs => layL xs
  | .dict kvs => layK kvs
def layL : List PyData → Bool
  | [] => true
  | x :: xs => lay x && layL xs
def layK : List (PyData × PyData) → Bool
  | [] => true
  | (k, v) :: xs => lay k && lay v && layK xs
end
mutual
theorem canLay_of : ∀ d : PyData, lay d = true → d.hasDict = false → d.canLay0 = true
  | .none, _, _ => rfl
  | .bool _, _, _ => rfl
  | .int _, _, _ => rfl
  | .str x, h, _ => by simpa only [lay, PyData.canLay0] using h
  | .list xs, h, g => by
    simp only [lay] at h
    simp only [PyData.hasDict] at g
    simp only [PyData.canLay0]
    exact canLayAll_of xs h g
  | .tuple xs, h, g => by
    simp only [lay] at h
    simp only [PyData.hasDict] at g
    simp only [PyData.canLay0]
    exact canLayAll_of xs h g
  | .dict kvs, _, g => by simp only [PyData.hasDict] at g; cases g
theorem canLayAll_of : ∀ d : List PyData, layL d = true → PyData.hasDictAll d = false → PyData.canLayAll0 d = true
  | [], _, _ => rfl
  | x :: xs, h, g => by
    simp only [layL, Bool.and_eq_true] at h
    simp only [PyData.hasDictAll, Bool.or_eq_false_iff] at g
    simp only [PyData.canLayAll0, canLay_of x h.1 g.1, canLayAll_of xs h.2 g.2, Bool.and_self]
end
structure Tame (d : PyData) (k n : Nat) : Prop where
  show_ : d.showable = true
  short : d.leavesShort 300 = true
  lay : lay d = true
  depth : d.depth ≤ k
  bulk : d.bulk ≤ n
structure TameL (d : List PyData) (k n : Nat) : Prop where
  show_ : PyData.showableAll d = true
  short : PyData.leavesShortAll 300 d = true
  lay : layL d = true
  depth : PyData.depthAll d ≤ k
  bulk : PyData.bulkAll d ≤ n
section
variable {k n j m : Nat} {d : PyData} {ds : List PyData}
theorem Tame.mono (h : Tame d k n) (a : k ≤ j) (l : n ≤ m) : Tame d j m := ⟨h.1, h.2, h.3, Nat.le_trans h.4 a, Nat.le_trans h.5 l⟩
theorem TameL.mono (h : TameL ds k n) (a : k ≤ j) (l : n ≤ m) : TameL ds j m := ⟨h.1, h.2, h.3, Nat.le_trans h.4 a, Nat.le_trans h.5 l⟩
theorem Tame.len (h : Tame d k n) (hn : n ≤ 50000) : d.shown.length ≤ sizeLine := by
  have := PyData.shown_le_bulk 300 (by decide) d h.short
  have := h.bulk
  rw [sizeLine_eq]
  omega
theorem tame_none : Tame .none 1 0 := ⟨rfl, rfl, rfl, by decide, by decide⟩
theorem tame_bool {b : Bool} : Tame (.bool b) 1 0 := ⟨rfl, rfl, rfl, by simp [PyData.depth], by simp [PyData.bulk]⟩
theorem log2_small {i : Int} {k : Nat} (hk : 0 < k) (h : i.natAbs < 2 ^ k) : i.natAbs.log2 < k := by
  by_cases z : i.natAbs = 0
  · rw [z]; simpa using hk
  · exact (Nat.log2_lt z).mpr h
theorem tame_int {i : Int} (h : i.natAbs < 2 ^ 250) : Tame (.int i) 1 0 := by
  have hl := log2_small (by decide) h
  refine ⟨?_, ?_, rfl, by simp [PyData.depth], by simp [PyData.bulk]⟩
  · simp only [PyData.showable, decide_eq_true_eq]
    omega
  · simp only [PyData.leavesShort, decide_eq_true_eq, PyData.shown]
    have e := int_text_length_le (a := i) (k := 250) (by decide) hl
    have e2 := PySem.ofString_length (toString i)
    exact decide_eq_true (by omega)
theorem tame_str {x : Str} (h : x.length ≤ n) (hc : PyData.strOk x = true) : Tame (.str x) 1 n := by
  refine ⟨rfl, ?_, by simpa only [lay] using hc, by simp [PyData.depth], by simpa only [PyData.bulk] using (show x.cps.size ≤ n from h)⟩
  simp only [PyData.leavesShort, List.all_eq_true, decide_eq_true_eq]
  intro c hm
  have z : c < 1114112 := by
    unfold PyData.strOk at hc
    rw [← Array.all_toList, List.all_eq_true] at hc
    exact of_decide_eq_true (hc c hm)
  exact Nat.lt_trans z (by decide)
theorem tameL_nil : TameL [] 0 0 := ⟨rfl, rfl, rfl, by simp [PyData.depthAll], by simp [PyData.bulkAll]⟩
theorem tameL_cons (h : Tame d k m) (l : TameL ds k n) : TameL (d :: ds) k (m + n + 1) := by
  refine ⟨?_, ?_, ?_, ?_, ?_⟩
  · simp only [PyData.showableAll, h.1, l.1, Bool.and_self]
  · simp only [PyData.leavesShortAll, h.2, l.2, Bool.and_self]
  · simp only [layL, h.3, l.3, Bool.and_self]
  · have := h.4; have := l.4
    simp only [PyData.depthAll]
    omega
  · have := h.5; have := l.5
    simp only [PyData.bulkAll]
    omega
theorem tame_lst (l : TameL ds k n) : Tame (.list ds) (k + 1) n := by
  have := l.4; have := l.5
  refine ⟨by simpa only [PyData.showable] using l.1, by simpa only [PyData.leavesShort] using l.2, by simpa only [PC.lay] using l.3, ?_, ?_⟩
  · simp only [PyData.depth]; omega
  · simp only [PyData.bulk]; omega
theorem tame_tup (l : TameL ds k n) : Tame (.tuple ds) (k + 1) n := by
  have := l.4; have := l.5
  refine ⟨by simpa only [PyData.showable] using l.1, by simpa only [PyData.leavesShort] using l.2, by simpa only [PC.lay] using l.3, ?_, ?_⟩
  · simp only [PyData.depth]; omega
  · simp only [PyData.bulk]; omega
theorem Tame.lstL (l : Tame (.list ds) k n) : TameL ds k n := by
  obtain ⟨a, b, f, c, e⟩ := l
  simp only [PyData.showable, PyData.leavesShort, PyData.depth, PyData.bulk, PC.lay] at a b c e f
  exact ⟨a, b, f, by omega, e⟩
theorem Tame.tupL (l : Tame (.tuple ds) k n) : TameL ds k n := by
  obtain ⟨a, b, f, c, e⟩ := l
  simp only [PyData.showable, PyData.leavesShort, PyData.depth, PyData.bulk, PC.lay] at a b c e f
  exact ⟨a, b, f, by omega, e⟩
theorem TameL.get (l : TameL ds k n) (h : d ∈ ds) : Tame d k n := by
  obtain ⟨a, b, f, c, e⟩ := l
  induction ds with
  | nil => cases h
  | cons x r ih =>
    simp only [PyData.showableAll, PyData.leavesShortAll, layL, Bool.and_eq_true] at a b f
    simp only [PyData.depthAll, PyData.bulkAll] at c e
    rcases List.mem_cons.mp h with z | z
    · subst z
      exact ⟨a.1, b.1, f.1, by omega, by omega⟩
    · exact ih z a.2 b.2 f.2 (by omega) (by omega)
theorem Tame.shaped (t : Tame d k n) (hk : k ≤ 64) (h : d.hasDict = false) : SeqAt.shaped d = true := by
  have := t.depth
  unfold SeqAt.shaped
  rw [canLay_of d t.lay h, decide_eq_true (by omega)]
  rfl
theorem tameL_of : ∀ {ds : List PyData}, (∀ d ∈ ds, Tame d k m) → TameL ds k (ds.length * (m + 1))
  | [], h => tameL_nil.mono (by omega) (by omega)
  | d :: ds, h => by
    have z := tameL_cons (h d (List.mem_cons_self ..)) (tameL_of fun x hx => h x (List.mem_cons_of_mem _ hx))
    refine z.mono (Nat.le_refl _) ?_
    rw [List.length_cons, Nat.add_mul, Nat.one_mul]
    omega
end

/-! ### repr -/
section
variable {X : Cx}
def rRepr (K : PySem.W.Frag) : List V → Hp → VK → Prop := fun xs H Q =>
  ∃ Z v d, xs = [v] ∧ One H ∧ Dat K Z H d v ∧ Tame d 40 50000 ∧ Q (.str d.shown) H
theorem call_reprU (hg : X.A.guards = some []) (hu : X.A.units + 64 < cLine) : CallR X (.builtin "repr") (rRepr X.K) := by
  intro pins s σ H xs us Q I r h
  obtain ⟨Z, v, d, rfl, o1, hd, t, q⟩ := h
  obtain ⟨u, rfl, rv⟩ := vals1 r
  obtain ⟨as, hr', ns⟩ := Dat.reads I o1 d v u hd rv
  have hd' := t.depth
  cases d with
  | none =>
    simp only [Dat] at hd
    subst hd
    cases (show _ = Value.none from rv)
    exact P.repr_of_none ⟨.str _, H, I.tok _, ⟨_, rfl⟩, q⟩
  | bool b =>
    simp only [Dat] at hd
    subst hd
    cases (show _ = Value.bool b from rv)
    refine P.repr_of_bool ?_
    cases b with
    | true => exact ⟨.str _, H, I.tok _, ⟨_, rfl⟩, q⟩
    | false => exact ⟨.str _, H, I.tok _, ⟨_, rfl⟩, q⟩
  | int i =>
    simp only [Dat] at hd
    subst hd
    obtain ⟨tk, rfl⟩ := (show ∃ t, _ = Value.int i t from rv)
    have sh : i.natAbs.log2 < 1920 := by simpa only [PyData.showable, decide_eq_true_eq] using t.show_
    exact P.repr_of_int sh ⟨.str _, H, I.tok _, ⟨_, rfl⟩, q⟩
  | str x =>
    simp only [Dat] at hd
    subst hd
    obtain ⟨tk, rfl⟩ := (show ∃ t, _ = Value.str x t from rv)
    exact P.repr_of_str ⟨.str _, H, I.tok _, ⟨_, rfl⟩, q⟩ (by simpa only [PyData.shown] using t.len (by decide))
  | list ds =>
    obtain ⟨a, ys, rfl, _⟩ := hd.lst
    cases (show _ = Value.ref a from rv)
    exact repr_ref hg I hr' t.show_ (fun _ => ns) (by omega) (t.len (by decide)) q
  | tuple ds =>
    obtain ⟨a, ys, rfl, _⟩ := hd.tup
    cases (show _ = Value.ref a from rv)
    exact repr_ref hg I hr' t.show_ (fun _ => ns) (by omega) (t.len (by decide)) q
  | dict ds =>
    obtain ⟨a, ys, rfl, _⟩ := hd.dct
    cases (show _ = Value.ref a from rv)
    exact repr_ref hg I hr' t.show_ (fun _ => ns) (by omega) (t.len (by decide)) q
theorem call_repr {k : Nat} (hg : X.A.guards = some []) (hr : Room k X.A) : CallR X (.builtin "repr") (rRepr X.K) := call_reprU hg hr.units
end
end PC

set_option Elab.async false
set_option linter.all false
set_option maxRecDepth 100000
set_option maxHeartbeats 2000000
/-! PcC: wider rules by values, and what they ask of data. -/
namespace PC
open PySem PySem.Spec PyProof.Rows L2

section
variable {X : Cx}
/-- divmod by a great positive divisor -/
theorem call_divmodW : CallR X (.builtin "divmod") (fun xs H Q => ∃ i j, xs = [.int i, .int j] ∧ CDivW i j ∧
    ∀ p, H p = none → Q (.ref p) (upd H p (.tup [.int (i / j), .int (i % j)]))) := by
  intro pins s σ H xs us Q I r h
  obtain ⟨i, j, rfl, ⟨h1, h2⟩, q⟩ := h
  obtain ⟨u, w', rfl, ⟨t, rfl⟩, ⟨t', rfl⟩⟩ := vals2 r
  refine divmod_int (by omega) ?_ (.inl (PyProof.noPylong_of_log2 h2))
  have e1 : i.fdiv j = i / j := Int.fdiv_eq_ediv_of_nonneg i (by omega)
  have e2 : i.fmod j = i % j := Int.fmod_eq_emod_of_nonneg i (by omega)
  rw [e1, e2]
  refine ⟨.ref s.heap.objs.size, _, I.laid (o := .tup [.int (i / j), .int (i % j)]) (fun b o e => Heap.get?_push_of_some _ e) (Nat.le_refl _)
    ⟨by rw [sizeLine_eq]; simp, [.int (i / j) s.toks, .int (i % j) (s.toks + 1)], .cons ⟨_, rfl⟩ (.cons ⟨_, rfl⟩ .nil), ?_⟩,
    rfl, q _ (I.hok.fresh (Nat.le_refl _))⟩
  exact ⟨_, Heap.get?_push_size s.heap rfl, rfl, 0, rfl⟩

/-! ### + -/
theorem rd_lst {pins : List (Addr × Obj)} {σ : L2.St} {H : Hp} {s : Shared} {a : Addr} {xs : List V} (I : Inv X pins σ H s) (h : Rd H a (.lst xs)) :
    ∃ (its : List Value) (n : Nat), Vals xs its ∧ xs.length ≤ sizeLine ∧
      s.heap.get? a = some { cls := .type "list", data := .seq its.toArray n } := by
  obtain ⟨z, its, n, r, e⟩ := (show ObjOk X.prog X.w H s.heap a (.lst xs) from h.ok I.hok)
  exact ⟨its, n, r, z, e⟩
def rCatL : R2 := fun x y H Q => ∃ l b xs zs, x = .ref l ∧ y = .ref b ∧ Rd H l (.lst xs) ∧ Rd H b (.lst zs) ∧
  xs.length + zs.length ≤ sizeLine ∧ ∀ p, H p = none → Q (.ref p) (upd H p (.lst (xs ++ zs)))
theorem op_catL : OpR X (binaryOp .Add) rCatL := by
  intro pins s σ H x y v u Q I rx ry h
  obtain ⟨l, b, xs, zs, rfl, rfl, hH, hB, hz, q⟩ := h
  cases (show v = Value.ref l from rx)
  cases (show u = Value.ref b from ry)
  obtain ⟨its, n, r, hl, e⟩ := rd_lst I hH
  obtain ⟨its2, n2, r2, hl2, e2⟩ := rd_lst I hB
  have le1 := r.length
  have le2 := r2.length
  refine PySem.P.add_list e e2 ?_ (by rw [List.size_toArray, List.size_toArray]; omega)
  have ea : its.toArray ++ its2.toArray = (its ++ its2).toArray := by simp
  rw [ea]
  exact ⟨.ref _, _, I.lnew (t' := s.toks) (r.append r2) (by rw [List.length_append]; omega), rfl, q _ I.fresh⟩
/-- tuples, the left one empty: the right one itself -/
def rCatT0 (K : PySem.W.Frag) : R2 := fun x y H Q => ∃ a b ys, x = .ref a ∧ y = .ref b ∧ SqT K H a [] ∧ SqT K H b ys ∧ Q (.ref b) H
theorem op_catT0 : OpR X (binaryOp .Add) (rCatT0 X.K) := by
  intro pins s σ H x y v u Q I rx ry h
  obtain ⟨a, b, ys, rfl, rfl, ha, hb, q⟩ := h
  cases (show v = Value.ref a from rx)
  cases (show u = Value.ref b from ry)
  obtain ⟨its, r1, p1, _⟩ := I.tuple ha
  obtain ⟨its2, r2, p2, _⟩ := I.tuple hb
  obtain ⟨⟨cls, dd, data, sl⟩, ho, hc, n, hd⟩ := id p1
  obtain ⟨⟨cls2, dd2, data2, sl2⟩, ho2, hc2, n2, hd2⟩ := id p2
  simp only at hc hd hc2 hd2
  subst hc hd hc2 hd2
  cases r1
  exact concat_meets ⟨_, ho, rfl⟩ ⟨_, ho2, rfl⟩ noFill_tuple_add seq_tuple_add PySem.F.slot_tuple_add PySem.F.entry_tuple_add
    (PySem.F.args_tuple_add_2 _ _) (tuple_addW0 a b _ _ n n2 dd dd2 sl sl2 rfl) ⟨ho, ho2, ⟨.ref b, H, I, rfl, q⟩⟩
def rAddI : R2 := rI0 fun i j => .int (i + j)
def rAddS : R2 := fun x y H Q => ∃ i j, x = .str i ∧ y = .str j ∧ i.length + j.length ≤ sizeLine ∧ Q (.str (i ++ j)) H
/-- + of ints, texts, lists, tuples -/
def rAdd (K : PySem.W.Frag) : R2 := fun x y H Q => rAddI x y H Q ∨ rAddS x y H Q ∨ rCatL x y H Q ∨ rCatT0 K x y H Q ∨ rCatT K x y H Q
theorem op_addA : OpR X (binaryOp .Add) (rAdd X.K) := OpR.or op_add (OpR.or op_add_str (OpR.or op_catL (OpR.or op_catT0 op_catT)))

/-! ### slices -/
theorem getItem_whole {prog : Program} {w : World} {A : Around} {E : Value → Shared → Prop} {s : Shared} {t sl : Addr} {items : Array Value} {vl vu : Value}
    {lo hi : Option Int} {Q : Value → Shared → Prop} (ht : IsTup s.heap t items) (hs : s.heap.IsSliceOf sl vl vu .none)
    (pl : IsPart vl lo) (pu : IsPart vu hi) (hw : HT.sIx items.size 0 lo = 0 ∧ HT.sIx items.size items.size hi = items.size)
    (h : Q (.ref t) s) (hsz : items.size ≤ sizeLine) : wpAny (model prog w) A (getItem (.ref t) (.ref sl)) Q E s := by
  obtain ⟨os, hos, hcs, hds⟩ := id hs
  have hTs : s.TypeIs (.ref sl) "slice" := ⟨os, hos, hcs⟩
  unfold getItem
  try with_reducible refine wpAny_holding ?_
  first | refine wpAny_bind (wpAny_pure ?_) | skip
  refine wpAny_bind (wpAny_sequenceKey ht.typeIs (by decide) ?_)
  refine wpAny_bind (wpAny_callSpecial?_slot (name := Str.ofString "__getitem__") ht.typeIs PyProof.Rows.slot_tuple_getitem
    (wpAny_call_entry PyProof.Rows.slot_tuple_getitem ht.typeIs entry_tuple_getitem ?_ (args_tuple_getitem _ _)))
  show wpAny _ _ (Builtin.Tuple.tupleItemsOf (.ref t) >>= _) _ _ s
  refine wpAny_bind (tupleItemsOf_ ht ?_)
  refine wpAny_bind (wpAny_typeOf hTs ?_)
  rw [if_pos (by decide)]
  refine wpAny_bind (HT.sliceApplied_gen hs pl pu ?_)
  have hyes : ((((HT.sIx items.size 0 lo : Nat) : Int) == 0 && (1 : Int) == 1 &&
      (HT.sIx items.size items.size hi - HT.sIx items.size 0 lo) == items.size) = true) := by
    rw [hw.1, hw.2]; simp
  show wpAny _ _ (if (((HT.sIx items.size 0 lo : Nat) : Int) == 0 && (1 : Int) == 1 &&
      (HT.sIx items.size items.size hi - HT.sIx items.size 0 lo) == items.size) = true then _ else _) _ _ s
  rw [if_pos hyes]
  show wpAny _ _ (Builtin.Tuple.tupleIsExact (.ref t) >>= _) _ _ s
  unfold Builtin.Tuple.tupleIsExact
  refine wpAny_bind (wpAny_bind (wpAny_typeOf ht.typeIs (wpAny_pure ?_)))
  rw [if_pos (by decide)]
  first
    | exact ⟨_, rfl, wpAny_pure h⟩
    | exact wpAny_bind (wpAny_pure ⟨_, rfl, wpAny_pure h⟩)
    | exact wpAny_pure ⟨_, rfl, wpAny_pure h⟩
    | (wp_walk; exact ⟨_, rfl, wpAny_pure h⟩)
def rSlT0 (K : PySem.W.Frag) : V → Option Int → Option Int → Hp → VK → Prop := fun x lo hi H Q => ∃ a xs, x = .ref a ∧ SqT K H a xs ∧
  (HT.sIx xs.length 0 lo = 0 ∧ HT.sIx xs.length xs.length hi = xs.length) ∧ Q (.ref a) H
theorem sl_tup0 : SlR X (rSlT0 X.K) := by
  intro pins s σ H x v vl vu lo hi sl Q I rx hs pl pu h
  obtain ⟨a, xs, rfl, hx, hw, q⟩ := h
  cases (show v = Value.ref a from rx)
  obtain ⟨its, r, ht, hz⟩ := I.tuple hx
  have hlen : its.toArray.size = xs.length := by rw [List.size_toArray]; exact r.length.symm
  exact ⟨"tuple", _, PyProof.Rows.slot_tuple_getitem.lookup, ht.typeIs,
    getItem_whole ht hs pl pu (by rw [hlen]; exact hw) ⟨.ref a, H, I, rfl, q⟩ (by rw [hlen]; exact hz)⟩
/-- a[lo:hi] of lists, tuples, texts -/
def rSl (K : PySem.W.Frag) : V → Option Int → Option Int → Hp → VK → Prop := fun x lo hi H Q =>
  rSlL K x lo hi H Q ∨ rSlT0 K x lo hi H Q ∨ rSlT K x lo hi H Q ∨ rSlS x lo hi H Q
theorem sl_any : SlR X (rSl X.K) := SlR.or sl_list (SlR.or sl_tup0 (SlR.or sl_tup sl_str))

/-! ### len, list, tuple, isinstance, ==, in -/
def rLen (K : PySem.W.Frag) : List V → Hp → VK → Prop := fun xs H Q =>
  (∃ p ys, xs = [.ref p] ∧ (SqL K H p ys ∨ SqT K H p ys) ∧ Q (.int ys.length) H) ∨ (∃ z, xs = [.str z] ∧ z.length ≤ sizeLine ∧ Q (.int z.length) H)
theorem call_lenA : CallR X (.builtin "len") (rLen X.K) := CallR.or call_len_seq call_len_str
def rList (K : PySem.W.Frag) : List V → Hp → VK → Prop := fun xs H Q => ∃ p ys, xs = [.ref p] ∧ (SqL K H p ys ∨ SqT K H p ys) ∧ ∀ l, H l = none → Q (.ref l) (upd H l (.lst ys))
theorem call_listA : CallR X (.type "list") (rList X.K) := call_list_of
def rTuple (K : PySem.W.Frag) : List V → Hp → VK → Prop := fun xs H Q => ∃ p ys, xs = [.ref p] ∧
  ((SqL K H p ys ∧ ∀ l, H l = none → Q (.ref l) (upd H l (.tup ys))) ∨ (SqT K H p ys ∧ Q (.ref p) H))
theorem call_tupleA : CallR X (.type "tuple") (rTuple X.K) := call_tuple_of
/-- == of scalars, or of data -/
def rEqDat (K : PySem.W.Frag) : R2 := fun x y H Q => ∃ Z d e, One H ∧ Dat K Z H d x ∧ Dat K Z H e y ∧ SeqAt.shaped d = true ∧ SeqAt.shaped e = true ∧ Q (.bl (PyData.eqv d e)) H
theorem op_eqDatU (hu : X.A.units + 64 < cLine) : OpR X (compareOp .Eq) (rEqDat X.K) := by
  intro pins s σ H x y v u Q I rx ry h
  obtain ⟨Z, d, e, o1, hd, he, sd, se, q⟩ := h
  obtain ⟨as, r1, _⟩ := Dat.reads I o1 d x v hd rx
  obtain ⟨bs, r2, _⟩ := Dat.reads I o1 e y u he ry
  exact SeqAt.compareEq_shaped r1 r2 sd se hu ⟨.bl _, H, I, rfl, q⟩
def rNeDat (K : PySem.W.Frag) : R2 := fun x y H Q => ∃ Z d e, One H ∧ Dat K Z H d x ∧ Dat K Z H e y ∧ SeqAt.shaped d = true ∧ SeqAt.shaped e = true ∧ Q (.bl (!PyData.eqv d e)) H
theorem op_neDatU (hu : X.A.units + 64 < cLine) : OpR X (compareOp .NotEq) (rNeDat X.K) := by
  intro pins s σ H x y v u Q I rx ry h
  obtain ⟨Z, d, e, o1, hd, he, sd, se, q⟩ := h
  obtain ⟨as, r1, _⟩ := Dat.reads I o1 d x v hd rx
  obtain ⟨bs, r2, _⟩ := Dat.reads I o1 e y u he ry
  exact SeqAt.compareNe_shaped r1 r2 sd se hu ⟨.bl _, H, I, rfl, q⟩
def rEqA (K : PySem.W.Frag) : R2 := fun x y H Q => rEq x y H Q ∨ rEqDat K x y H Q
def rNeA (K : PySem.W.Frag) : R2 := fun x y H Q => rNe x y H Q ∨ rNeDat K x y H Q
theorem op_eqAU (hu : X.A.units + 64 < cLine) : OpR X (compareOp .Eq) (rEqA X.K) := OpR.or op_eq (op_eqDatU hu)
theorem op_eqA {k : Nat} (hr : Room k X.A) : OpR X (compareOp .Eq) (rEqA X.K) := op_eqAU hr.units
theorem op_neAU (hu : X.A.units + 64 < cLine) : OpR X (compareOp .NotEq) (rNeA X.K) := OpR.or op_ne (op_neDatU hu)
theorem op_neA {k : Nat} (hr : Room k X.A) : OpR X (compareOp .NotEq) (rNeA X.K) := op_neAU hr.units
/-- one sign in a text; a text in a text; a flat thing in a list or tuple -/
def rInC : R2 := fun x y H Q => ∃ (c : Nat) (z : Str), x = .str ⟨#[c]⟩ ∧ y = .str z ∧ Q (.bl (decide (c ∈ z.cps.toList))) H
def rNotInC : R2 := fun x y H Q => ∃ (c : Nat) (z : Str), x = .str ⟨#[c]⟩ ∧ y = .str z ∧ Q (.bl (!decide (c ∈ z.cps.toList))) H
def rInA (K : PySem.W.Frag) : R2 := fun x y H Q => rInC x y H Q ∨ rIn K false x y H Q
def rNotInA (K : PySem.W.Frag) : R2 := fun x y H Q => rNotInC x y H Q ∨ rIn K true x y H Q
theorem op_inA : OpR X (compareOp .In) (rInA X.K) := OpR.or op_in_sign op_in_seq
theorem op_notInA : OpR X (compareOp .NotIn) (rNotInA X.K) := OpR.or op_notIn_sign op_notIn_seq
end

/-! ### what they ask, of data -/
section
variable {K : PySem.W.Frag} {p : Addr} {Z : List Addr} {H H' : Hp} {Q : VK} {x y : V} {d e : PyData} {ds es : List PyData}
/-- the places of Z are taken, p is one of them, the interpreter's table is known -/
structure Wd (p : Addr) (Z : List Addr) (H : Hp) : Prop where
  one : One H
  occ : ∀ b ∈ Z, H b ≠ none
  mem : p ∈ Z
theorem Wd.ne {n : Addr} (h : Wd p Z H) (hn : H n = none) : n ∉ Z := fun z => h.occ n z hn
theorem Wd.up (h : Wd p Z H) (r : R p H H') : Wd p Z H' := by
  refine ⟨r.one h.one, fun b hb => ?_, h.mem⟩
  by_cases z : b = p
  · subst z
    exact r.occ (h.occ _ hb)
  · cases e : H b with
    | none => exact absurd e (h.occ b hb)
    | some o =>
      rw [r.keep b o z e]
      exact fun w => nomatch w
theorem Dat.to {v : V} (h : Dat K Z H d v) (w : Wd p Z H) (r : R p H H') : Dat K Z H' d v := Dat.up r w.mem d v h
theorem DatL.to {v : List V} (h : DatL K Z H ds v) (w : Wd p Z H) (r : R p H H') : DatL K Z H' ds v := DatL.up r w.mem ds v h
theorem s_new_lst {vs : List V} (hp : Wd p Z H) (l : DatL K Z H ds vs) (q : ∀ H' v, R p H H' → Dat K Z H' (.list ds) v → Q v H') :
    ∀ n, H n = none → Q (.ref n) (upd H n (.lst vs)) := fun n hn =>
  q _ _ (R.new hn) (dat_lst (hp.ne hn) (.inl upd_same) (l.to hp (R.new hn)))
theorem s_new_tup {vs : List V} (hp : Wd p Z H) (l : DatL K Z H ds vs) (q : ∀ H' v, R p H H' → Dat K Z H' (.tuple ds) v → Q v H') :
    ∀ n, H n = none → Q (.ref n) (upd H n (.tup vs)) := fun n hn =>
  q _ _ (R.new hn) (dat_tup (hp.ne hn) (SqT.of upd_same) (l.to hp (R.new hn)))
theorem s_add_int {i j : Int} (q : Q (.int (i + j)) H) : rAdd K (.int i) (.int j) H Q := .inl ⟨i, j, rfl, rfl, q⟩
theorem s_add_str {i j : Str} (h : i.length + j.length ≤ sizeLine) (q : Q (.str (i ++ j)) H) : rAdd K (.str i) (.str j) H Q := .inr (.inl ⟨i, j, rfl, rfl, h, q⟩)
theorem s_add_lst (hp : Wd p Z H) (hx : Dat K Z H (.list ds) x) (hy : Dat K Z H (.list es) y) (hz : ds.length + es.length ≤ sizeLine)
    (q : ∀ H' v, R p H H' → Dat K Z H' (.list (ds ++ es)) v → Q v H') : rAdd K x y H Q := by
  obtain ⟨a, xs, rfl, na, ha, la⟩ := hx.lst
  obtain ⟨b, ys, rfl, nb, hb, lb⟩ := hy.lst
  refine .inr (.inr (.inl ⟨a, b, xs, ys, rfl, rfl, ha, hb, by rw [la.length, lb.length]; exact hz, ?_⟩))
  exact s_new_lst hp (la.append lb) q
theorem s_add_tup (hp : Wd p Z H) (hx : Dat K Z H (.tuple ds) x) (hy : Dat K Z H (.tuple es) y) (hz : ds.length + es.length ≤ sizeLine)
    (q : ∀ H' v, R p H H' → Dat K Z H' (.tuple (ds ++ es)) v → Q v H') : rAdd K x y H Q := by
  obtain ⟨a, xs, rfl, na, ha, la⟩ := hx.tup
  obtain ⟨b, ys, rfl, nb, hb, lb⟩ := hy.tup
  by_cases hd : ds = []
  · subst hd
    have e : xs = [] := by simpa only [DatL] using la
    subst e
    exact .inr (.inr (.inr (.inl ⟨a, b, ys, rfl, rfl, ha, hb, q _ _ (R.refl p H) (by simpa using hy)⟩)))
  · refine .inr (.inr (.inr (.inr ⟨a, b, xs, ys, rfl, rfl, ha, hb, ?_, by rw [la.length, lb.length]; exact hz, fun z => ?_, fun z => ?_⟩)))
    · intro z
      rw [z] at la
      have := la.length
      cases ds with
      | nil => exact hd rfl
      | cons _ _ => simp at this
    · subst z
      have e : es = [] := by have := lb.length; cases es with | nil => rfl | cons _ _ => simp at this
      subst e
      exact q _ _ (R.refl p H) (by simpa using hx)
    · exact s_new_tup hp (la.append lb) q
/-- the slice of a list of data -/
def sliD (xs : List PyData) (lo hi : Option Int) : List PyData := (xs.drop (HT.sIx xs.length 0 lo)).take (HT.sIx xs.length xs.length hi - HT.sIx xs.length 0 lo)
theorem DatL.cut {vs : List V} {lo hi : Option Int} (l : DatL K Z H ds vs) : DatL K Z H (sliD ds lo hi) (cutV vs lo hi) := by
  unfold sliD cutV
  rw [l.length]
  exact (l.drop _).take _
theorem s_sl_lst {lo hi : Option Int} (hp : Wd p Z H) (hx : Dat K Z H (.list ds) x) (q : ∀ H' v, R p H H' → Dat K Z H' (.list (sliD ds lo hi)) v → Q v H') : rSl K x lo hi H Q := by
  obtain ⟨a, xs, rfl, na, ha, la⟩ := hx.lst
  exact .inl ⟨a, xs, rfl, .inl ha, s_new_lst hp la.cut q⟩
theorem s_sl_tup {lo hi : Option Int} (hp : Wd p Z H) (hx : Dat K Z H (.tuple ds) x) (q : ∀ H' v, R p H H' → Dat K Z H' (.tuple (sliD ds lo hi)) v → Q v H') : rSl K x lo hi H Q := by
  obtain ⟨a, xs, rfl, na, ha, la⟩ := hx.tup
  by_cases w : HT.sIx xs.length 0 lo = 0 ∧ HT.sIx xs.length xs.length hi = xs.length
  · refine .inr (.inl ⟨a, xs, rfl, ha, w, q _ _ (R.refl p H) ?_⟩)
    have e : sliD ds lo hi = ds := by
      unfold sliD
      rw [← la.length, w.1, w.2, la.length]
      simp
    rw [e]; exact hx
  · exact .inr (.inr (.inl ⟨a, xs, rfl, ha, w, s_new_tup hp la.cut q⟩))
theorem s_sl_str {z : Str} {lo hi : Option Int} (h : z.length ≤ sizeLine) (q : Q (.str (cutS z lo hi)) H) : rSl K (.str z) lo hi H Q := .inr (.inr (.inr ⟨z, rfl, h, q⟩))
theorem s_len_lst (hx : Dat K Z H (.list ds) x) (q : Q (.int ds.length) H) : rLen K [x] H Q := by
  obtain ⟨a, xs, rfl, na, ha, la⟩ := hx.lst
  exact .inl ⟨a, xs, rfl, .inl (.inl ha), by rw [la.length]; exact q⟩
theorem s_len_tup (hx : Dat K Z H (.tuple ds) x) (q : Q (.int ds.length) H) : rLen K [x] H Q := by
  obtain ⟨a, xs, rfl, na, ha, la⟩ := hx.tup
  exact .inl ⟨a, xs, rfl, .inr ha, by rw [la.length]; exact q⟩
theorem s_len_str {z : Str} (h : z.length ≤ sizeLine) (q : Q (.int z.length) H) : rLen K [.str z] H Q := .inr ⟨z, rfl, h, q⟩
theorem s_list_lst (hp : Wd p Z H) (hx : Dat K Z H (.list ds) x) (q : ∀ H' v, R p H H' → Dat K Z H' (.list ds) v → Q v H') : rList K [x] H Q := by
  obtain ⟨a, xs, rfl, na, ha, la⟩ := hx.lst
  exact ⟨a, xs, rfl, .inl (.inl ha), s_new_lst hp la q⟩
theorem s_list_tup (hp : Wd p Z H) (hx : Dat K Z H (.tuple ds) x) (q : ∀ H' v, R p H H' → Dat K Z H' (.list ds) v → Q v H') : rList K [x] H Q := by
  obtain ⟨a, xs, rfl, na, ha, la⟩ := hx.tup
  exact ⟨a, xs, rfl, .inr ha, s_new_lst hp la q⟩
theorem s_tuple_lst (hp : Wd p Z H) (hx : Dat K Z H (.list ds) x) (q : ∀ H' v, R p H H' → Dat K Z H' (.tuple ds) v → Q v H') : rTuple K [x] H Q := by
  obtain ⟨a, xs, rfl, na, ha, la⟩ := hx.lst
  exact ⟨a, xs, rfl, .inl ⟨.inl ha, s_new_tup hp la q⟩⟩
theorem s_tuple_tup (hx : Dat K Z H (.tuple ds) x) (q : Q x H) : rTuple K [x] H Q := by
  obtain ⟨a, xs, rfl, na, ha, la⟩ := hx.tup
  exact ⟨a, xs, rfl, .inr ⟨ha, q⟩⟩
theorem s_repr (o : One H) (hx : Dat K Z H d x) (t : Tame d 40 50000) (q : Q (.str d.shown) H) : rRepr K [x] H Q := ⟨Z, x, d, rfl, o, hx, t, q⟩
/-- an item at a place that is in bounds -/
theorem s_ix_lst {i : Int} (hx : Dat K Z H (.list ds) x) (h0 : 0 ≤ i) (h1 : i < ds.length) (q : ∀ v d, ds[i.toNat]? = some d → Dat K Z H d v → Q v H) : rIx K x (.int i) H Q := by
  obtain ⟨a, xs, rfl, na, ha, la⟩ := hx.lst
  have hi : i.toNat < ds.length := by omega
  obtain ⟨v, hv, hd⟩ := la.get (List.getElem?_eq_getElem hi)
  have e : ((i.toNat : Nat) : Int) = i := Int.toNat_of_nonneg h0
  exact .inl ⟨a, xs, i, v, rfl, rfl, .inl ha, by rw [← e]; exact atI_nat hv, q v _ (List.getElem?_eq_getElem hi) hd⟩
theorem s_ix_tup {i : Int} (hx : Dat K Z H (.tuple ds) x) (h0 : 0 ≤ i) (h1 : i < ds.length) (q : ∀ v d, ds[i.toNat]? = some d → Dat K Z H d v → Q v H) : rIx K x (.int i) H Q := by
  obtain ⟨a, xs, rfl, na, ha, la⟩ := hx.tup
  have hi : i.toNat < ds.length := by omega
  obtain ⟨v, hv, hd⟩ := la.get (List.getElem?_eq_getElem hi)
  have e : ((i.toNat : Nat) : Int) = i := Int.toNat_of_nonneg h0
  exact .inr (.inl ⟨a, xs, i, v, rfl, rfl, ha, by rw [← e]; exact atI_nat hv, q v _ (List.getElem?_eq_getElem hi) hd⟩)
theorem s_ix_str {z : Str} {i : Int} (hz : z.length ≤ sizeLine) (h0 : 0 ≤ i) (h1 : i < z.length) (q : ∀ c, z.cps.toList[i.toNat]? = some c → Q (.str ⟨#[c]⟩) H) : rIx K (.str z) (.int i) H Q := by
  have hi : i.toNat < z.cps.toList.length := by
    have : z.cps.toList.length = z.length := by simp [Str.length]
    omega
  have e : ((i.toNat : Nat) : Int) = i := Int.toNat_of_nonneg h0
  obtain ⟨c, hc⟩ : ∃ c, z.cps.toList[i.toNat]? = some c := ⟨_, List.getElem?_eq_getElem hi⟩
  exact .inr (.inr ⟨z, i, c, rfl, rfl, hz, by rw [← e]; exact atI_nat hc, q _ hc⟩)
/-- a type's name -/
def tyD : PyData → String
  | .none => "NoneType" | .bool _ => "bool" | .int _ => "int" | .str _ => "str" | .list _ => "list" | .tuple _ => "tuple" | .dict _ => "dict"
theorem Dat.ty (h : Dat K Z H d x) : TyX K H x (.type (tyD d)) := by
  cases d with
  | none => simp only [Dat] at h; subst h; exact .base .non
  | bool b => simp only [Dat] at h; subst h; exact .base (.bl b)
  | int b => simp only [Dat] at h; subst h; exact .base (.int b)
  | str b => simp only [Dat] at h; subst h; exact .base (.str b)
  | list ds =>
    obtain ⟨a, xs, rfl, _, h, _⟩ := h.lst
    rcases h with h | ⟨o, h⟩
    · exact .base (.lst h)
    · exact .base (.frz h)
  | tuple ds =>
    obtain ⟨a, xs, rfl, _, h, _⟩ := h.tup
    rcases h with (h | ⟨o, h⟩) | ⟨o, _, _, h, c, _⟩
    · exact .base (.tup h)
    · exact .fTuple h
    · exact .kTuple h c
  | dict ds =>
    obtain ⟨a, xs, rfl, _, h, _⟩ := h.dct
    exact .base (.dK h)
/-- isinstance of data by a built-in type's name -/
def isD (d : PyData) (T : String) : Bool := tyD d == T || (T == "int" && tyD d == "bool")
theorem kit_table : ∀ a ∈ ["NoneType", "bool", "int", "str", "list", "tuple", "dict"], ∀ T ∈ ["int", "bool", "str", "list", "tuple", "dict"],
    kitB a T = some (a == T || (T == "int" && a == "bool")) := by decide +kernel
theorem kit_isD (d : PyData) {T : String} (hT : T = "int" ∨ T = "bool" ∨ T = "str" ∨ T = "list" ∨ T = "tuple" ∨ T = "dict") : kitB (tyD d) T = some (isD d T) := by
  refine kit_table _ ?_ T ?_
  · cases d <;> simp [tyD]
  · rcases hT with rfl | rfl | rfl | rfl | rfl | rfl <;> simp
theorem s_isi {T : String} (hx : Dat K Z H d x) (hT : T = "int" ∨ T = "bool" ∨ T = "str" ∨ T = "list" ∨ T = "tuple" ∨ T = "dict") (q : Q (.bl (isD d T)) H) : rIsi K [x, .ty T] H Q :=
  ⟨x, .ty T, _, _, isD d T, rfl, .ty T, hx.ty, kit_ty (kit_isD d hT), q⟩
theorem s_eq_sc (h : scal x y = true) (q : Q (.bl (decide (x = y))) H) : rEqA K x y H Q := .inl ⟨h, q⟩
theorem s_ne_sc (h : scal x y = true) (q : Q (.bl (!decide (x = y))) H) : rNeA K x y H Q := .inl ⟨h, q⟩
theorem s_eq_int {i j : Int} (q : Q (.bl (decide (i = j))) H) : rEqA K (.int i) (.int j) H Q := .inl ⟨rfl, by
  have e : decide (V.int i = V.int j) = decide (i = j) := by simp
  rw [e]; exact q⟩
theorem s_ne_int {i j : Int} (q : Q (.bl (!decide (i = j))) H) : rNeA K (.int i) (.int j) H Q := .inl ⟨rfl, by
  have e : decide (V.int i = V.int j) = decide (i = j) := by simp
  rw [e]; exact q⟩
theorem s_eq_str {i j : Str} (q : Q (.bl (decide (i = j))) H) : rEqA K (.str i) (.str j) H Q := .inl ⟨rfl, by
  have e : decide (V.str i = V.str j) = decide (i = j) := by simp
  rw [e]; exact q⟩
theorem s_ne_str {i j : Str} (q : Q (.bl (!decide (i = j))) H) : rNeA K (.str i) (.str j) H Q := .inl ⟨rfl, by
  have e : decide (V.str i = V.str j) = decide (i = j) := by simp
  rw [e]; exact q⟩
theorem s_eq_dat (o : One H) (hx : Dat K Z H d x) (hy : Dat K Z H e y) (sd : SeqAt.shaped d = true) (se : SeqAt.shaped e = true) (q : Q (.bl (PyData.eqv d e)) H) : rEqA K x y H Q :=
  .inr ⟨Z, d, e, o, hx, hy, sd, se, q⟩
theorem s_in_c {c : Nat} {z : Str} (q : Q (.bl (decide (c ∈ z.cps.toList))) H) : rInA K (.str ⟨#[c]⟩) (.str z) H Q := .inl ⟨c, z, rfl, rfl, q⟩
theorem s_notIn_c {c : Nat} {z : Str} (q : Q (.bl (!decide (c ∈ z.cps.toList))) H) : rNotInA K (.str ⟨#[c]⟩) (.str z) H Q := .inl ⟨c, z, rfl, rfl, q⟩
end
end PC

set_option Elab.async false
set_option linter.all false
set_option maxRecDepth 100000
set_option maxHeartbeats 2000000
/-! PcD: readings step by step; comprehensions over data; the store of draws. -/
namespace PC
open PySem PySem.Spec PyProof.Rows L2

/-- a comprehension behind its iterator's making -/
def LcG (J : It) (g : TG) (tt : TT) (te : TE) (vs : List Nat) (σ : L2.St) (H1 : Hp) (Q : VK) : Prop :=
  ∀ D, H1 D = none → ∃ W : Nat → Nat → Hp → Prop, (∃ m, W 0 m (upd H1 D (.lst []))) ∧ ∀ i m H, W i m H →
        (J.stop i H ∧ Q (.ref D) H) ∨ (J.go i H ∧ ∃ Nx : Hp → Prop, (∀ H', Nx H' → ∃ m', m' < m ∧ W (i + 1) m' H') ∧
          ∀ x H', J.yld i H x H' → g x (wipe σ vs) H' fun σ2 H2 => wipe σ2 vs = wipe σ vs ∧ tt σ2 H2 fun b H3 =>
            if b = true then te σ2 H3 fun y H4 => ∃ acc, H4 D = some (.lst acc) ∧ acc.length < sizeLine ∧ Nx (upd H4 D (.lst (acc ++ [y]))) else Nx H3)
/-- a for behind its iterator's making -/
def ForG (J : It) (g : TG) (tb : TS) (D : Ends) (σ : L2.St) (H1 : Hp) : Prop := ∃ W : Nat → Nat → L2.St → Hp → Prop, (∃ m, W 0 m σ H1) ∧ ∀ i m σ H, W i m σ H →
    (J.stop i H ∧ D.nx σ H) ∨ (J.go i H ∧ ∃ N : L2.St → Hp → Prop, (∀ σ' H', N σ' H' → ∃ m', m' < m ∧ W (i + 1) m' σ' H') ∧
      ∀ x H', J.yld i H x H' → g x σ H' fun σ2 H2 => tb { D with nx := N, ct := N, bk := D.nx } σ2 H2)
/-- a new list, a new tuple of these values -/
def NewL (xs : List V) (H : Hp) (Q : VK) : Prop := xs.length ≤ sizeLine ∧ ∀ p, H p = none → Q (.ref p) (upd H p (.lst xs))
def NewT (xs : List V) (H : Hp) (Q : VK) : Prop := xs.length ≤ sizeLine ∧ ∀ p, H p = none → Q (.ref p) (upd H p (.tup xs))
section
variable {σ : L2.St} {H : Hp} {Q : VK} {D : Ends} {v : V} {te ta tb tc : TE} {t u : TS} {tt t1 t2 : TT} {tr : TA} {QA : List V → Hp → Prop} {QT : Bool → Hp → Prop}
/-! ### expressions -/
theorem s_var {i : Nat} (h : σ[i]? = some (some v)) (q : Q v H) : tVar i σ H Q := ⟨v, h, q⟩
theorem s_c (q : Q v H) : tC v σ H Q := q
theorem s_op {r : R2} (q : ta σ H fun x H1 => tb σ H1 fun y H2 => r x y H2 Q) : tOp r ta tb σ H Q := q
theorem s_un {r : V → Hp → VK → Prop} (q : ta σ H fun x H1 => r x H1 Q) : tUn r ta σ H Q := q
theorem s_rI0 {g : Int → Int → V} {i j : Int} (q : Q (g i j) H) : rI0 g (.int i) (.int j) H Q := ⟨i, j, rfl, rfl, q⟩
theorem s_rI {C : Int → Int → Prop} {g : Int → Int → V} {i j : Int} (c : C i j) (q : Q (g i j) H) : rI C g (.int i) (.int j) H Q := ⟨i, j, rfl, rfl, c, q⟩
theorem s_rU {g : Int → V} {i : Int} (q : Q (g i) H) : rU g (.int i) H Q := ⟨i, rfl, q⟩
theorem s_nil (q : QA [] H) : tNil σ H QA := q
theorem s_cons (q : te σ H fun x H1 => tr σ H1 fun xs H2 => QA (x :: xs) H2) : tCons te tr σ H QA := q
theorem s_cb {r : List V → Hp → VK → Prop} (q : tr σ H fun vs H1 => r vs H1 Q) : tCB r tr σ H Q := q
theorem s_ck {r : List V → List V → Hp → VK → Prop} {tk : TA} (q : tr σ H fun vs H1 => tk σ H1 fun zs H2 => r vs zs H2 Q) : tCK r tr tk σ H Q := q
theorem s_if (q : tt σ H fun c H1 => if c = true then ta σ H1 Q else tb σ H1 Q) : tIf tt ta tb σ H Q := q
theorem s_andV (q : ta σ H fun x H1 => ∃ c, x = .bl c ∧ if c = true then tb σ H1 Q else Q (.bl false) H1) : tAndV ta tb σ H Q := q
theorem s_orV (q : ta σ H fun x H1 => ∃ c, x = .bl c ∧ if c = true then Q (.bl true) H1 else tb σ H1 Q) : tOrV ta tb σ H Q := q
theorem s_notV (q : ta σ H fun x H1 => ∃ c, x = .bl c ∧ Q (.bl (!c)) H1) : tNotV ta σ H Q := q
theorem s_chain {r r' : R2} (q : ta σ H fun x H1 => tb σ H1 fun y H2 => r x y H2 fun z H3 => ∃ k, z = .bl k ∧
    (if k = true then tc σ H3 fun w' H4 => r' y w' H4 Q else Q (.bl false) H3)) : tChain r r' ta tb tc σ H Q := q
theorem s_lst (q : tr σ H fun xs H1 => NewL xs H1 Q) : tLst tr σ H Q := q
theorem s_tup (q : tr σ H fun xs H1 => NewT xs H1 Q) : tTup tr σ H Q := q
theorem s_slice {r : V → Option Int → Option Int → Hp → VK → Prop} {tl th : TO} (q : te σ H fun x H1 => tl σ H1 fun l H2 => th σ H2 fun u H3 => r x l u H3 Q) : tSl r te tl th σ H Q := q
theorem s_part {Qo : Option Int → Hp → Prop} (q : te σ H fun x H1 => ∃ i, x = .int i ∧ Qo (some i) H1) : tPart te σ H Qo := q
theorem s_noPart {Qo : Option Int → Hp → Prop} (q : Qo none H) : tNoPart σ H Qo := q
/-! ### tests -/
theorem s_test (q : te σ H fun x H' => ∃ k, x = .bl k ∧ QT k H') : tTest te σ H QT := q
theorem s_tB (q : te σ H fun x H' => ∃ k, x = .bl k ∧ QT k H') : tB te σ H QT := q
theorem s_not (q : tt σ H fun c H1 => QT (!c) H1) : tNot tt σ H QT := q
theorem s_and (q : t1 σ H fun c H1 => if c = true then t2 σ H1 QT else QT false H1) : tAnd t1 t2 σ H QT := q
theorem s_or (q : t1 σ H fun c H1 => if c = true then QT true H1 else t2 σ H1 QT) : tOr t1 t2 σ H QT := q
/-! ### statements -/
theorem s_seq (q : t { D with nx := u D } σ H) : tSeq t u D σ H := q
theorem s_next (q : D.nx σ H) : tNext D σ H := q
theorem s_ret (q : te σ H D.rt) : tRet te D σ H := q
theorem s_retN (q : D.rt .non H) : tRetN D σ H := q
theorem s_drop (q : te σ H fun _ H1 => D.nx σ H1) : tDrop te D σ H := q
theorem s_ifS (q : tt σ H fun b H1 => if b = true then t D σ H1 else u D σ H1) : tIfS tt t u D σ H := q
theorem s_asg {g : TG} (q : te σ H fun x H1 => g x σ H1 D.nx) : tAsg te g D σ H := q
theorem s_par {i j : Nat} (q : tr σ H fun vs H1 => ∃ v w, vs = [v, w] ∧ D.nx ((σ.set i (some v)).set j (some w)) H1) : tPar i j tr D σ H := q
theorem s_gname {i : Nat} {N : L2.St → Hp → Prop} (q : N (σ.set i (some v)) H) : gName i v σ H N := q
end

/-! ### comprehensions -/
section
variable {J : It} {n : Nat} {G : Hp → Prop} {Y : Nat → Hp → V → Hp → Prop} {K : PySem.W.Frag} {p : Addr} {Z : List Addr}
theorem Wd.more {D : Addr} {H : Hp} (w : Wd p Z H) (hD : H D ≠ none) : Wd p (D :: Z) H :=
  ⟨w.one, fun b hb => (List.mem_cons.mp hb).elim (fun z => z ▸ hD) (w.occ b), List.mem_cons_of_mem _ w.mem⟩
theorem R.wd {D : Addr} {H H' : Hp} (r : R p H H') (hD : H D ≠ none) (hp : D ≠ p) : H' D = H D := by
  cases e : H D with
  | none => exact absurd e hD
  | some o => exact r.keep D o hp e
/-- a list comprehension: I tells, behind i turns, what data the new list shows. Within a turn the new list stands at D, and no data stands there -/
theorem s_lc (w : Walk J n G Y) (hn : n < sizeLine) {g : TG} {tt : TT} {te : TE} {vs : List Nat} {σ : L2.St} {H1 : Hp} {Q : VK}
    (wd : Wd p Z H1) (I : Nat → List PyData → Prop) (h0 : I 0 []) (hG : ∀ H, R p H1 H → G H)
    (turn : ∀ (D : Addr) i x H H' ds, H1 D = none → D ∉ Z → i < n → I i ds → ds.length ≤ i → R p H1 H → Wd p (D :: Z) H → Y i H x H' →
      ∀ (F : VK) (N : Hp → Prop), (∀ y H4 d, R p H H4 → Dat K (D :: Z) H4 d y → I (i + 1) (ds ++ [d]) → F y H4) →
        (∀ H3, R p H H3 → I (i + 1) ds → N H3) →
      g x (wipe σ vs) H' fun σ2 H2 => wipe σ2 vs = wipe σ vs ∧ tt σ2 H2 fun b H3 => if b = true then te σ2 H3 F else N H3)
    (done : ∀ H' v ds, R p H1 H' → I n ds → ds.length ≤ n → Dat K Z H' (.list ds) v → Q v H') :
    LcG J g tt te vs σ H1 Q := by
  intro D hD
  have nz : D ∉ Z := wd.ne hD
  have np : D ≠ p := fun z => nz (z ▸ wd.mem)
  refine lc_it w (Pv := fun i H => ∃ ds acc, H D = some (.lst acc) ∧ R p H1 H ∧ DatL K (D :: Z) H ds acc ∧ ds.length ≤ i ∧ I i ds) ?_ ?_ ?_ ?_
  · exact ⟨[], [], upd_same, R.new hD, datL_nil, Nat.le_refl _, h0⟩
  · rintro i H _ ⟨ds, acc, e, r, _⟩
    exact hG H r
  · rintro i x H H' hi ⟨ds, acc, e, r, l, le, hI⟩ y
    have wD : Wd p (D :: Z) H := (wd.up r).more (by rw [e]; exact fun w => nomatch w)
    refine turn D i x H H' ds hD nz hi hI le r wD y _ _ (fun y H4 d r4 hd hI' => ?_) (fun H3 r3 hI' => ?_)
    · have e4 : H4 D = some (.lst acc) := r4.keep D _ np e
      have mD : D ∈ D :: Z := List.mem_cons_self
      refine ⟨acc, e4, by rw [l.length]; omega, ds ++ [d], acc ++ [y], upd_same, (r.trans r4).over hD np, ?_, by simp; omega, hI'⟩
      exact DatL.append (DatL.put mD _ _ (l.to wD r4)) (datL_cons (Dat.put mD _ _ hd) datL_nil)
    · exact ⟨ds, acc, r3.keep D _ np e, r.trans r3, l.to wD r3, by omega, hI'⟩
  · rintro H ⟨ds, acc, e, r, l, le, hI⟩
    exact done H _ ds r hI le (dat_lst nz (.inl e) (DatL.less (fun a h => List.mem_cons_of_mem _ h) _ _ l))
end

/-! ### built-ins by name -/
theorem bt_max : bootBuiltins "max" = some (.builtin "max") := by decide +kernel
theorem bt_min : bootBuiltins "min" = some (.builtin "min") := by decide +kernel
theorem bt_abs : bootBuiltins "abs" = some (.builtin "abs") := by decide +kernel
theorem bt_divmod : bootBuiltins "divmod" = some (.builtin "divmod") := by decide +kernel
theorem bt_len : bootBuiltins "len" = some (.builtin "len") := by decide +kernel
theorem bt_isinstance : bootBuiltins "isinstance" = some (.builtin "isinstance") := by decide +kernel
theorem bt_repr : bootBuiltins "repr" = some (.builtin "repr") := by decide +kernel
theorem bt_sum : bootBuiltins "sum" = some (.builtin "sum") := by decide +kernel
theorem bt_all : bootBuiltins "all" = some (.builtin "all") := by decide +kernel
theorem bt_any : bootBuiltins "any" = some (.builtin "any") := by decide +kernel
theorem bt_sorted : bootBuiltins "sorted" = some (.builtin "sorted") := by decide +kernel
theorem bt_int : bootBuiltins "int" = some (.type "int") := by decide +kernel
theorem bt_bool : bootBuiltins "bool" = some (.type "bool") := by decide +kernel
theorem bt_str : bootBuiltins "str" = some (.type "str") := by decide +kernel
theorem bt_list : bootBuiltins "list" = some (.type "list") := by decide +kernel
theorem bt_tuple : bootBuiltins "tuple" = some (.type "tuple") := by decide +kernel
theorem bt_dict : bootBuiltins "dict" = some (.type "dict") := by decide +kernel
/-! ### choices -/
theorem ite_b {b : Bool} {A B : Prop} (h1 : b = true → A) (h0 : b = false → B) : if b = true then A else B := by
  cases b with
  | true => exact iteT (h1 rfl)
  | false => exact iteF (h0 rfl)
theorem ite_d {c A B : Prop} [Decidable c] (h1 : c → A) (h0 : ¬ c → B) : if decide c = true then A else B :=
  ite_b (fun h => h1 (of_decide_eq_true h)) (fun h => h0 (of_decide_eq_false h))
theorem ite_nd {c A B : Prop} [Decidable c] (h1 : ¬ c → A) (h0 : c → B) : if (!decide c) = true then A else B := by
  by_cases h : c
  · rw [decide_eq_true h]; exact iteF (h0 h)
  · rw [decide_eq_false h]; exact iteT (h1 h)
theorem ite_nb {b : Bool} {A B : Prop} (h1 : b = false → A) (h0 : b = true → B) : if (!b) = true then A else B := by
  cases b with
  | true => exact iteF (h0 rfl)
  | false => exact iteT (h1 rfl)

section
variable {X : Cx}
theorem ix_any : IxR X (rIx X.K) := ix_seq
theorem op_modA : OpR X (binaryOp .Mod) (rI (fun _ j => 0 < j) fun i j => .int (i % j)) := op_mod
theorem op_fdivA : OpR X (binaryOp .FloorDiv) (rI CDivW fun i j => .int (i / j)) := op_fdivW
end
/-! ### targets, the pot -/
section
variable {K : PySem.W.Frag} {σ : L2.St} {H : Hp} {N : L2.St → Hp → Prop} {Q : VK} {p : Addr} {x y v : V} {a b : Int} {Z : List Addr}
theorem s_gcons {t : TG} {u : TGs} {r : List V} (q : t v σ H fun σ' H' => u r σ' H' N) : gCons t u (v :: r) σ H N := ⟨v, r, rfl, q⟩
theorem s_gnil (q : N σ H) : gNil [] σ H N := ⟨rfl, q⟩
theorem s_gsub {to ti : TE} {t : TSet} (q : to σ H fun o H1 => ti σ H1 fun i H2 => t o i v H2 fun H3 => N σ H3) : gSub to ti t v σ H N := q
theorem s_gtup {n : Nat} {t : TGs} {xs : List V} (h : SqT K H p xs) (hl : xs.length = n) (q : t xs σ H N) : gTup K n t (.ref p) σ H N := ⟨p, xs, rfl, h, hl, q⟩
theorem s_pot0 (e : H p = some (.lst [x, y])) (q : Q x H) : rIx K (.ref p) (.int 0) H Q := .inl ⟨p, [x, y], 0, x, rfl, rfl, .inl (.inl e), atI_nat (j := 0) rfl, q⟩
theorem s_pot1 (e : H p = some (.lst [x, y])) (q : Q y H) : rIx K (.ref p) (.int 1) H Q := .inl ⟨p, [x, y], 1, y, rfl, rfl, .inl (.inl e), atI_nat (j := 1) rfl, q⟩
theorem s_pset0 {N : Hp → Prop} (e : H p = some (.lst [x, y])) (q : N (upd H p (.lst [v, y]))) : rSetL (.ref p) (.int 0) v H N := ⟨p, [x, y], 0, 0, rfl, rfl, e, rfl, q⟩
theorem s_pset1 {N : Hp → Prop} (e : H p = some (.lst [x, y])) (q : N (upd H p (.lst [x, v]))) : rSetL (.ref p) (.int 1) v H N := ⟨p, [x, y], 1, 1, rfl, rfl, e, rfl, q⟩
/-- the script at an index in its bounds -/
theorem s_script {ns : List Int} {i : Nat} (h : SqL K H p (ns.map V.int)) (hi : i < ns.length) (q : ∀ z, ns[i]? = some z → Q (.int z) H) : rIx K (.ref p) (.int i) H Q := by
  refine .inl ⟨p, _, i, .int ns[i], rfl, rfl, h, atI_nat (j := i) (by rw [List.getElem?_map, List.getElem?_eq_getElem hi]; rfl), q _ (List.getElem?_eq_getElem hi)⟩
end
/-! ### keywords -/
section
variable {K : PySem.W.Frag} {α β : Type}
def pick (perm : List Nat) (xs : List α) : List α := perm.filterMap (xs[·]?)
def kwg (a b : Nat) (perm : List Nat) (us ws : List α) : List α := if us.length = a ∧ ws.length = b then pick perm (us ++ ws) else []
theorem pick_vals {xs : List V} {us : List Value} (r : Vals xs us) : ∀ perm : List Nat, Vals (pick perm xs) (pick perm us)
  | [] => .nil
  | i :: perm => by
    have ih := pick_vals r perm
    unfold pick at ih ⊢
    rw [List.filterMap_cons, List.filterMap_cons]
    cases e : xs[i]? with
    | none => rw [r.none_of e]; exact ih
    | some x =>
      obtain ⟨u, hu, ru⟩ := r.get e
      rw [hu]
      exact .cons ru ih
theorem kb_of {x qual : Str} {st : Stmt} {f : Addr} {fd : FuncData} {ps ks : List Str} {a b : Nat} {perm : List Nat} (F : Fun K x qual st f fd) (h0 : ps ≠ [])
    (h : ∀ (kV doc pm : Value) (an : Option Addr) (cdv ct : Value) (us ws : List Value), us.length = a → ws.length = b →
      bindArgs (PySem.W.fnOf x qual (defArgs st) (defBody st) (defScope st) .none kV doc pm an cdv ct) ⟨us, ks.zip ws⟩ = pure (ps.zip (pick perm (us ++ ws)))) :
    KBinds K fd ps ks (kwg a b perm) (kwg a b perm) := by
  obtain ⟨oc, od, kV, doc, pm, an, cdv, ct, osl, rfl, lk, hcd⟩ := F.ex
  refine ⟨fun s us ws _ hl => ?_, fun {vs us zs ws} r z => ?_⟩
  · by_cases c : us.length = a ∧ ws.length = b
    · unfold kwg
      rw [if_pos c]
      exact .of_eq (h kV doc pm an cdv ct us ws c.1 c.2)
    · unfold kwg at hl
      rw [if_neg c] at hl
      exact absurd (List.length_eq_zero_iff.mp hl.symm) h0
  · unfold kwg
    by_cases c : us.length = a ∧ ws.length = b
    · rw [if_pos c, if_pos ⟨by rw [r.length]; exact c.1, by rw [z.length]; exact c.2⟩]
      exact pick_vals (r.append z) perm
    · rw [if_neg c, if_neg (fun q => c ⟨by rw [← r.length]; exact q.1, by rw [← z.length]; exact q.2⟩)]
      exact .nil
end

theorem cmul_r {i j : Int} (h : -18446744073709551616 < j) (h' : j < 18446744073709551616) : CMul i j := .inr ⟨h, h'⟩
theorem cmul_l {i j : Int} (h : -18446744073709551616 < i) (h' : i < 18446744073709551616) : CMul i j := .inl ⟨h, h'⟩
theorem cdw {i j : Int} (h : 0 < j) (h' : j < 18446744073709551616) : CDivW i j := wide_div h (b := 64) (by omega) (by decide) (by decide)
theorem cpow {i j : Int} (h : 0 ≤ j) (h' : j ≤ 1000000) (h'' : i.natAbs < 18446744073709551616) : CPow i j := ⟨h, h', h''⟩
section
variable {K : PySem.W.Frag} {H : Hp} {Q : VK}
theorem s_max {i j : Int} (q : Q (.int (if j > i then j else i)) H) : (fun (xs : List V) H (Q : VK) => ∃ i j, xs = [.int i, .int j] ∧ Q (.int (if j > i then j else i)) H) [.int i, .int j] H Q := ⟨i, j, rfl, q⟩
end

/-! ### comprehensions of one form -/
section
variable {J : It} {n : Nat} {G : Hp → Prop} {Y : Nat → Hp → V → Hp → Prop} {K : PySem.W.Frag} {p : Addr} {Z : List Addr} {gi : Nat} {te : TE} {vs : List Nat} {σ : L2.St} {H1 : Hp} {Q : VK}
theorem gmono {i : Nat} {x : V} {σ : L2.St} {H : Hp} {F F' : L2.St → Hp → Prop} (h : gName i x σ H F) (m : ∀ σ H, F σ H → F' σ H) : gName i x σ H F' := m _ _ h
theorem s_yes {σ : L2.St} {H : Hp} {QT : Bool → Hp → Prop} (q : QT true H) : tYes σ H QT := q
/-- every turn lays down the datum f i -/
theorem s_lc_map (w : Walk J n G Y) (hn : n < sizeLine) (wd : Wd p Z H1) (f : Nat → PyData) (hG : ∀ H, R p H1 H → G H)
    (turn : ∀ (D : Addr) i x H H', H1 D = none → D ∉ Z → i < n → R p H1 H → Wd p (D :: Z) H → Y i H x H' →
      ∀ F : VK, (∀ y H4, R p H H4 → Dat K (D :: Z) H4 (f i) y → F y H4) →
      gName gi x (wipe σ vs) H' fun σ2 H2 => wipe σ2 vs = wipe σ vs ∧ te σ2 H2 F)
    (done : ∀ H' v, R p H1 H' → Dat K Z H' (.list ((List.range n).map f)) v → Q v H') :
    LcG J (gName gi) tYes te vs σ H1 Q := by
  refine s_lc (K := K) w hn wd (fun i ds => ds = (List.range i).map f) rfl hG ?_ ?_
  · intro D i x H H' ds hD nz hi hI _ r w' y F N hF _
    subst hI
    refine gmono (turn D i x H H' hD nz hi r w' y F fun y H4 r4 hd => hF y H4 _ r4 hd ?_) ?_
    · rw [List.range_succ, List.map_append]; rfl
    · rintro σ2 H2 ⟨e, q⟩
      refine ⟨e, ?_⟩
      show (if true = true then te σ2 H2 F else N H2)
      rw [if_pos rfl]
      exact q
  · intro H' v ds r hI _ hd
    subst hI
    exact done H' v r hd
/-- every turn lays down a datum of which P holds -/
theorem s_lc_any (w : Walk J n G Y) (hn : n < sizeLine) (wd : Wd p Z H1) (P : Nat → PyData → Prop) (hG : ∀ H, R p H1 H → G H)
    (turn : ∀ (D : Addr) i x H H', H1 D = none → D ∉ Z → i < n → R p H1 H → Wd p (D :: Z) H → Y i H x H' →
      ∀ F : VK, (∀ y H4 d, R p H H4 → Dat K (D :: Z) H4 d y → P i d → F y H4) →
      gName gi x (wipe σ vs) H' fun σ2 H2 => wipe σ2 vs = wipe σ vs ∧ te σ2 H2 F)
    (done : ∀ H' v ds, R p H1 H' → ds.length = n → (∀ i d, ds[i]? = some d → P i d) → Dat K Z H' (.list ds) v → Q v H') :
    LcG J (gName gi) tYes te vs σ H1 Q := by
  refine s_lc (K := K) w hn wd (fun i ds => ds.length = i ∧ ∀ i d, ds[i]? = some d → P i d) ⟨rfl, fun i d e => by simp at e⟩ hG ?_ ?_
  · intro D i x H H' ds hD nz hi hI _ r w' y F N hF _
    obtain ⟨hl, hI⟩ := hI
    refine gmono (turn D i x H H' hD nz hi r w' y F fun y H4 d r4 hd hp => hF y H4 d r4 hd ⟨by simp [hl], fun j e hj => ?_⟩) ?_
    · rw [List.getElem?_append] at hj
      split at hj
      · exact hI j e hj
      · rename_i hlt
        have ej : j = i := by
          have : j - ds.length < 1 := by
            by_cases z : j - ds.length < 1
            · exact z
            · rw [List.getElem?_eq_none (by simp; omega)] at hj; cases hj
          omega
        subst ej
        rw [hl, Nat.sub_self] at hj
        simp at hj
        subst hj
        exact hp
    · rintro σ2 H2 ⟨e, q⟩
      refine ⟨e, ?_⟩
      show (if true = true then te σ2 H2 F else N H2)
      rw [if_pos rfl]
      exact q
  · intro H' v ds r hI _ hd
    exact done H' v ds r hI.1 hI.2 hd
end
section
variable {K : PySem.W.Frag} {p : Addr} {Z : List Addr} {H : Hp} {Q : VK} {x : V} {d : PyData}
theorem s_all {bs : List Bool} (h : Dat K Z H (.list (bs.map .bool)) x) (q : Q (.bl (bs.all id)) H) : rAll K [x] H Q := by
  obtain ⟨a, xs, rfl, _, ha, l⟩ := h.lst
  rw [l.bls] at ha
  exact ⟨a, bs, rfl, .inl ha, q⟩
theorem s_any {bs : List Bool} (h : Dat K Z H (.list (bs.map .bool)) x) (q : Q (.bl (bs.any id)) H) : rAny K [x] H Q := by
  obtain ⟨a, xs, rfl, _, ha, l⟩ := h.lst
  rw [l.bls] at ha
  exact ⟨a, bs, rfl, .inl ha, q⟩
theorem isD_str (h : isD d "str" = true) : ∃ z, d = .str z := by cases d <;> simp [isD, tyD] at h <;> exact ⟨_, rfl⟩
theorem isD_tup (h : isD d "tuple" = true) : ∃ z, d = .tuple z := by cases d <;> simp [isD, tyD] at h <;> exact ⟨_, rfl⟩
theorem isD_lst (h : isD d "list" = true) : ∃ z, d = .list z := by cases d <;> simp [isD, tyD] at h <;> exact ⟨_, rfl⟩
theorem Dat.str {z : Str} (h : Dat K Z H (.str z) x) : x = .str z := by simpa only [Dat] using h
theorem Dat.int {z : Int} (h : Dat K Z H (.int z) x) : x = .int z := by simpa only [Dat] using h
theorem Dat.bool {z : Bool} (h : Dat K Z H (.bool z) x) : x = .bl z := by simpa only [Dat] using h
theorem Tame.strlen {z : Str} {k n : Nat} (t : Tame (.str z) k n) : z.length ≤ n := by
  have := t.bulk
  simp only [PyData.bulk] at this
  exact this
end
theorem map_getD {α β : Type} (l : List α) (a : α) (f : α → β) : (List.range l.length).map (fun i => f (l.getD i a)) = l.map f := by
  apply List.ext_getElem?
  intro i
  by_cases h : i < l.length
  · simp [h]
  · simp [h]
theorem sl_of {n : Nat} (h : n ≤ 50000) : n ≤ sizeLine := by rw [sizeLine_eq]; omega
theorem sl_lt {n : Nat} (h : n ≤ 50000) : n < sizeLine := by rw [sizeLine_eq]; omega

/-! ### the rules with the written part named (within a comprehension the context is another, the written part is not) -/
section
variable {X : Cx} {K : PySem.W.Frag} {k : Nat}
theorem kx_add (h : X.K = K) : OpR X (binaryOp .Add) (rAdd K) := by subst h; exact op_addA
theorem kx_ix (h : X.K = K) : IxR X (rIx K) := by subst h; exact ix_any
theorem kx_sl (h : X.K = K) : SlR X (rSl K) := by subst h; exact sl_any
theorem kx_len (h : X.K = K) : CallR X (.builtin "len") (rLen K) := by subst h; exact call_lenA
theorem kx_list (h : X.K = K) : CallR X (.type "list") (rList K) := by subst h; exact call_listA
theorem kx_tuple (h : X.K = K) : CallR X (.type "tuple") (rTuple K) := by subst h; exact call_tupleA
theorem kx_eq (h : X.K = K) (hr : Room k X.A) : OpR X (compareOp .Eq) (rEqA K) := by subst h; exact op_eqA hr
theorem kx_ne (h : X.K = K) (hr : Room k X.A) : OpR X (compareOp .NotEq) (rNeA K) := by subst h; exact op_neA hr
theorem kx_in (h : X.K = K) : OpR X (compareOp .In) (rInA K) := by subst h; exact op_inA
theorem kx_notIn (h : X.K = K) : OpR X (compareOp .NotIn) (rNotInA K) := by subst h; exact op_notInA
theorem kx_repr (h : X.K = K) (hg : X.A.guards = some []) (hr : Room k X.A) : CallR X (.builtin "repr") (rRepr K) := by subst h; exact call_repr hg hr
theorem kx_reprU (h : X.K = K) (hg : X.A.guards = some []) (hu : X.A.units + 64 < cLine) : CallR X (.builtin "repr") (rRepr K) := by subst h; exact call_reprU hg hu
theorem kx_eqU (h : X.K = K) (hu : X.A.units + 64 < cLine) : OpR X (compareOp .Eq) (rEqA K) := by subst h; exact op_eqAU hu
theorem kx_neU (h : X.K = K) (hu : X.A.units + 64 < cLine) : OpR X (compareOp .NotEq) (rNeA K) := by subst h; exact op_neAU hu
theorem kx_isi (h : X.K = K) : CallR X (.builtin "isinstance") (rIsi K) := by subst h; exact call_isi
theorem kx_isiT (h : X.K = K) : CallR X (.builtin "isinstance") (rIsiT K) := by subst h; exact call_isiT
theorem kx_all (h : X.K = K) (hc : X.calm = true) : CallR X (.builtin "all") (rAll K) := by subst h; exact cr_all hc
theorem kx_any (h : X.K = K) (hc : X.calm = true) : CallR X (.builtin "any") (rAny K) := by subst h; exact cr_any hc
theorem kx_sum (h : X.K = K) (hc : X.calm = true) : CallR X (.builtin "sum") (rSum K) := by subst h; exact cr_sum hc
theorem kx_max (h : X.K = K) (hc : X.calm = true) : CallR X (.builtin "max") (rMax K) := by subst h; exact cr_max hc
theorem kx_min (h : X.K = K) (hc : X.calm = true) : CallR X (.builtin "min") (rMin K) := by subst h; exact cr_min hc
end

theorem ite_nf {A B : Prop} (h : A) : if (!false) = true then A else B := iteT h
theorem ite_nt {A B : Prop} (h : B) : if (!true) = true then A else B := iteF h
section
variable {σ : L2.St} {H : Hp} {Q : VK} {D : Ends} {g : TG} {tt : TT} {te : TE} {ta : TA} {vs : List Nat} {K : PySem.W.Frag} {RI : It → Hp → Prop} {tb : TS} {wi : TI}
theorem s_tlc (q : wi σ H fun J H1 => LcG J g tt te vs σ H1 Q) : tLc wi g tt te vs σ H Q := q
theorem s_iStr (q : te σ H fun v H1 => ∃ x, v = .str x ∧ RI (Its x) H1) : iStr te σ H RI := q
theorem s_iList (q : te σ H fun x H1 => ∃ a, x = .ref a ∧ (∃ xs, SqL K H1 a xs) ∧ RI (Itl K a) H1) : iList K te σ H RI := q
theorem s_iTup (q : te σ H fun x H1 => ∃ a, x = .ref a ∧ (∃ xs, SqT K H1 a xs) ∧ RI (Itt K a) H1) : iTup K te σ H RI := q
theorem s_iRng1 (q : ta σ H fun vs H1 => ∃ j : Int, vs = [.int j] ∧ -(2 ^ 62) ≤ j ∧ j < 2 ^ 62 ∧ RI (Itr 0 j.toNat) H1) : iRng1 ta σ H RI := q
theorem s_iRng2 (q : ta σ H fun vs H1 => ∃ i j : Int, vs = [.int i, .int j] ∧ (-(2 ^ 62) ≤ i ∧ i < 2 ^ 62 ∧ -(2 ^ 62) ≤ j ∧ j < 2 ^ 62) ∧ RI (Itr i (j - i).toNat) H1) : iRng2 ta σ H RI := q
theorem s_for (q : wi σ H fun J H1 => ForG J g tb D σ H1) : tFor wi g tb D σ H := q
/-- a for, by an invariant over the turn, the slots, the heap -/
theorem s_forI {J : It} {n : Nat} {G : Hp → Prop} {Y : Nat → Hp → V → Hp → Prop} (w : Walk J n G Y) (Pv : Nat → L2.St → Hp → Prop) (h0 : Pv 0 σ H) (hG : ∀ i σ H, i ≤ n → Pv i σ H → G H)
    (hs : ∀ i x σ H H', i < n → Pv i σ H → Y i H x H' → g x σ H' fun σ2 H2 => tb { D with nx := Pv (i + 1), ct := Pv (i + 1), bk := D.nx } σ2 H2)
    (hd : ∀ σ H, Pv n σ H → D.nx σ H) : ForG J g tb D σ H := for_it w Pv h0 hG hs hd
section
variable {p : Addr} {Z : List Addr} {ds : List PyData} {xs : List V}
theorem s_newl (K : PySem.W.Frag) (w : Wd p Z H) (l : DatL K Z H ds xs) (hl : ds.length ≤ 50000) (q : ∀ H' v, R p H H' → Dat K Z H' (.list ds) v → Q v H') : NewL xs H Q :=
  ⟨by rw [l.length]; exact sl_of hl, s_new_lst w l q⟩
theorem s_newt (K : PySem.W.Frag) (w : Wd p Z H) (l : DatL K Z H ds xs) (hl : ds.length ≤ 50000) (q : ∀ H' v, R p H H' → Dat K Z H' (.tuple ds) v → Q v H') : NewT xs H Q :=
  ⟨by rw [l.length]; exact sl_of hl, s_new_tup w l q⟩
end
end

/-! ### picks, dicts, joined texts -/
section
variable {K : PySem.W.Frag} {p : Addr} {Z : List Addr} {H : Hp} {Q : VK} {x : V} {d : PyData} {ds : List PyData} {σ : L2.St}
/-- an item of a list of data, at a place in its bounds -/
theorem s_pick {i : Int} (hx : Dat K Z H (.list ds) x) (h0 : 0 ≤ i) (h1 : i < ds.length) (q : ∀ v d, d ∈ ds → Dat K Z H d v → Q v H) : rIx K x (.int i) H Q :=
  s_ix_lst hx h0 h1 fun v d e h => q v d (List.mem_of_getElem? e) h
theorem s_dnew (w : Wd p Z H) (q : ∀ H' v, R p H H' → Dat K Z H' (.dict []) v → Q v H') : tDNewK σ H Q := fun a ha =>
  q _ _ (R.new ha) (by simp only [Dat, DatK]; exact ⟨a, [], rfl, w.ne ha, upd_same, rfl⟩)
theorem s_disp1 (w : Wd p Z H) (k : Key) {v : V} (hd : ∀ H', Dat K Z H' d v) (q : ∀ H' x, R p H H' → Dat K Z H' (.dict [(keyD k, d)]) x → Q x H') :
    tDisp [(tC (kV k), tC v)] σ H Q := by
  intro a ha
  show _ ∧ _
  refine ⟨upd_same, [(k, v)], rfl, by simp, ?_⟩
  rw [upd_upd, show mergeK [] [(k, v)] = [(k, v)] from rfl]
  refine q _ _ (R.new ha) ?_
  simp only [Dat, DatK]
  exact ⟨a, [(k, v)], rfl, w.ne ha, upd_same, k, v, [], rfl, rfl, hd _, rfl⟩
theorem s_m1 {r : V → List V → Hp → VK → Prop} {to te : TE} (q : to σ H fun x H1 => (∃ a, x = .str a) ∧ te σ H1 fun y H2 => r x [y] H2 Q) : tM1 r to te σ H Q := q
def rJoin (K : PySem.W.Frag) : V → List V → Hp → VK → Prop := fun x xs H Q => ∃ a p, ∃ ys : List Str, x = .str a ∧ xs = [.ref p] ∧
  (SqL K H p (ys.map V.str) ∨ SqT K H p (ys.map V.str)) ∧ (ys.map (·.length)).sum + ys.length * a.length ≤ 16777216 ∧ Q (.str (Txt.join a ys)) H
theorem pe_joinK {X : Cx} {o e : Expr} {to te : TE} {apos pos : Pos} (hK : X.K = K) (ho : PE X o to) (he : PE X e te) (hs : starEach [e] X.env = [(false, eval e X.env)] := by rfl)
    (hbase : attributeBase o "join" X.env (eval o X.env) = eval o X.env := by rfl) (hline : (apos.endLine == pos.line) = true := by rfl) :
    PE X (.Call (.Attribute o "join" apos) [e] [] pos) (tM1 (rJoin K) to te) := by
  subst hK
  exact pe_join ho he hs hbase hline
theorem s_join {a : Str} {ys : List Str} (hx : Dat K Z H (.list (ys.map .str)) x) (hl : (ys.map (·.length)).sum + ys.length * a.length ≤ 16777216) (q : Q (.str (Txt.join a ys)) H) :
    rJoin K (.str a) [x] H Q := by
  obtain ⟨b, xs, rfl, _, hb, l⟩ := hx.lst
  rw [l.strs] at hb
  exact ⟨a, b, ys, rfl, rfl, .inl (.inl hb), hl, q⟩
end
/-! ### texts -/
theorem cps_app (a b : Str) : (a ++ b).cps.toList = a.cps.toList ++ b.cps.toList := by
  show (a.cps ++ b.cps).toList = _
  simp
theorem ok_iff {x : Str} : PyData.strOk x = true ↔ ∀ c ∈ x.cps.toList, c < 1114112 := by
  unfold PyData.strOk
  rw [← Array.all_toList, List.all_eq_true]
  constructor
  · intro h c hc; exact of_decide_eq_true (h c hc)
  · intro h c hc; exact decide_eq_true (h c hc)
theorem ok_app {a b : Str} (h : PyData.strOk a = true) (g : PyData.strOk b = true) : PyData.strOk (a ++ b) = true := by
  rw [ok_iff] at *
  intro c hc
  rw [cps_app] at hc
  exact (List.mem_append.mp hc).elim (h c) (g c)
theorem len_app (a b : Str) : (a ++ b).length = a.length + b.length := by
  show (a.cps ++ b.cps).size = _
  simp [Str.length]
theorem ok_cut {z : Str} {lo hi : Option Int} (h : PyData.strOk z = true) : PyData.strOk (cutS z lo hi) = true := by
  rw [ok_iff] at *
  intro c hc
  have hc' : c ∈ (z.cps.toList.drop (HT.sIx z.length 0 lo)).take (HT.sIx z.length z.length hi - HT.sIx z.length 0 lo) := by
    simpa [cutS] using hc
  exact h c (List.mem_of_mem_drop (List.mem_of_mem_take hc'))
theorem len_cut {z : Str} {lo hi : Option Int} : (cutS z lo hi).length = HT.sIx z.length z.length hi - HT.sIx z.length 0 lo := by
  have h2 := HT.sIx_le z.length z.length (Nat.le_refl _) hi
  have e : z.cps.toList.length = z.length := by simp [Str.length]
  unfold cutS Str.length
  simp only [List.size_toArray, List.length_take, List.length_drop]
  simp only [Str.length] at e h2 ⊢
  omega
theorem ok_one {c : Nat} (h : c < 1114112) : PyData.strOk ⟨#[c]⟩ = true := by rw [ok_iff]; simp; exact h
theorem ok_join : ∀ (ys : List Str), (∀ y ∈ ys, PyData.strOk y = true) → PyData.strOk (Txt.join "" ys) = true := by
  intro ys h
  rw [TL.join_eq]
  induction ys with
  | nil => decide +kernel
  | cons y r ih =>
    cases r with
    | nil => exact h y (by simp)
    | cons u r => exact ok_app (ok_app (h y (by simp)) (by decide +kernel)) (ih fun z hz => h z (List.mem_cons_of_mem _ hz))
theorem len_join : ∀ (ys : List Str), (Txt.join "" ys).length = (ys.map (·.length)).sum := by
  intro ys
  rw [TL.join_eq]
  induction ys with
  | nil => rfl
  | cons y r ih =>
    cases r with
    | nil => simp [Str.join]
    | cons u r =>
      show (y ++ ("" : Str) ++ Str.join "" (u :: r)).length = _
      rw [len_app, len_app, ih]
      simp
      rfl
theorem strs_of {ds : List PyData} {P : Str → Prop} : (∀ d ∈ ds, ∃ z, d = .str z ∧ P z) → ∃ ys : List Str, ds = ys.map .str ∧ ∀ y ∈ ys, P y := by
  induction ds with
  | nil => intro _; exact ⟨[], rfl, by simp⟩
  | cons d r ih =>
    intro h
    obtain ⟨z, e, hz⟩ := h d (by simp)
    obtain ⟨ys, e2, h2⟩ := ih fun x hx => h x (List.mem_cons_of_mem _ hx)
    exact ⟨z :: ys, by rw [e, e2]; rfl, by simp; exact ⟨hz, h2⟩⟩
theorem ints_of {ds : List PyData} {P : Int → Prop} : (∀ d ∈ ds, ∃ z, d = .int z ∧ P z) → ∃ ys : List Int, ds = ys.map .int ∧ ∀ y ∈ ys, P y := by
  induction ds with
  | nil => intro _; exact ⟨[], rfl, by simp⟩
  | cons d r ih =>
    intro h
    obtain ⟨z, e, hz⟩ := h d (by simp)
    obtain ⟨ys, e2, h2⟩ := ih fun x hx => h x (List.mem_cons_of_mem _ hx)
    exact ⟨z :: ys, by rw [e, e2]; rfl, by simp; exact ⟨hz, h2⟩⟩
theorem sum_ones : ∀ ys : List Str, (∀ y ∈ ys, y.length = 1) → (ys.map (·.length)).sum = ys.length
  | [], _ => rfl
  | y :: r, h => by
    rw [List.map_cons, List.sum_cons, h y (by simp), sum_ones r fun z hz => h z (List.mem_cons_of_mem _ hz), List.length_cons]; omega

/-! ### what repr writes is made of code points -/
theorem char_lt (c : Char) : c.toNat < 1114112 := by
  have h := c.valid
  show c.val.toNat < 1114112
  rcases h with h | ⟨_, h⟩
  · have : c.val.toNat < 0xd800 := h
    omega
  · exact h
theorem ok_ofString (s : String) : PyData.strOk (Str.ofString s) = true := by
  rw [ok_iff, signs_ofString]
  intro c hc
  obtain ⟨ch, _, rfl⟩ := List.mem_map.mp hc
  exact char_lt ch
theorem reprChar_lt {q c x : Nat} (hq : c < 1114112) (h : x ∈ Builtin.Str.reprChar q c) : x < 1114112 := by
  have hx : ∀ w : Nat, x ∈ List.replicate (w - ((Nat.toDigits 16 c).map Char.toNat).length) 48 ++ (Nat.toDigits 16 c).map Char.toNat → x < 1114112 := by
    intro w h
    rcases List.mem_append.mp h with h | h
    · rw [List.eq_of_mem_replicate h]; decide
    · obtain ⟨ch, _, rfl⟩ := List.mem_map.mp h
      exact char_lt ch
  unfold Builtin.Str.reprChar at h
  simp only at h
  repeat' split at h
  all_goals first
    | (simp only [List.mem_cons, List.not_mem_nil, or_false] at h; omega)
    | (rcases List.mem_append.mp h with h | h
       · simp only [List.mem_cons, List.not_mem_nil, or_false] at h; omega
       · exact hx _ h)
theorem mem_fold (f : Nat → List Nat) (x : Nat) : ∀ (l : List Nat) (acc : Array Nat), x ∈ (l.foldl (fun out c => out ++ (f c).toArray) acc).toList → x ∈ acc.toList ∨ ∃ c ∈ l, x ∈ f c
  | [], acc, h => .inl h
  | c :: l, acc, h => by
    rcases mem_fold f x l _ h with h | ⟨d, hd, h⟩
    · have h' : x ∈ acc.toList ++ f c := by simpa using h
      rcases List.mem_append.mp h' with h | h
      · exact .inl h
      · exact .inr ⟨c, by simp, h⟩
    · exact .inr ⟨d, List.mem_cons_of_mem _ hd, h⟩
theorem quote_lt (x : Str) : reprQuote x < 1114112 := by
  unfold reprQuote
  split <;> decide
theorem ok_reprText {x : Str} (h : PyData.strOk x = true) : PyData.strOk (reprText x) = true := by
  rw [ok_iff] at *
  intro c hc
  unfold reprText at hc
  rw [Array.toList_push] at hc
  rcases List.mem_append.mp hc with hc | hc
  · rw [← Array.foldl_toList] at hc
    rcases mem_fold (Builtin.Str.reprChar (reprQuote x)) c _ _ hc with hc | ⟨d, hd, hc⟩
    · have : c = reprQuote x := by simpa using hc
      rw [this]; exact quote_lt x
    · exact reprChar_lt (h d hd) hc
  · rw [List.mem_singleton.mp hc]; exact quote_lt x
theorem ok_sjoin (sep : Str) (hs : PyData.strOk sep = true) (ts : List Str) (h : ∀ t ∈ ts, PyData.strOk t = true) : PyData.strOk (Str.join sep ts) = true := by
  rw [ok_iff]
  intro c hc
  rcases (mem_join sep c ts).mp hc with ⟨t, ht, hc⟩ | ⟨_, hc⟩
  · exact ok_iff.mp (h t ht) c hc
  · exact ok_iff.mp hs c hc
theorem ok_textFrom : ∀ (ts : List Str) (k : Nat) (acc : Str), PyData.strOk acc = true → (∀ t ∈ ts, PyData.strOk t = true) → PyData.strOk (textFrom k acc ts) = true
  | [], k, acc, h, _ => h
  | t :: r, k, acc, h, g => by
    show PyData.strOk (textFrom (k + 1) _ r) = true
    exact ok_textFrom r (k + 1) _ (ok_app (ok_app h (ok_ofString _)) (g t (by simp))) fun u hu => g u (List.mem_cons_of_mem _ hu)
mutual
theorem ok_shown : ∀ d : PyData, lay d = true → PyData.strOk d.shown = true
  | .none, _ => ok_ofString _
  | .bool b, _ => by cases b <;> exact ok_ofString _
  | .int i, _ => ok_ofString _
  | .str x, h => by
    simp only [PyData.shown]
    exact ok_reprText (by simpa only [lay] using h)
  | .list xs, h => by
    simp only [PyData.shown]
    exact ok_app (ok_textFrom _ _ _ (ok_ofString _) (ok_shownAll xs (by simpa only [lay] using h))) (ok_ofString _)
  | .tuple xs, h => by
    simp only [PyData.shown]
    exact ok_app (ok_app (ok_ofString _) (ok_sjoin _ (ok_ofString _) _ (ok_shownAll xs (by simpa only [lay] using h)))) (ok_ofString _)
  | .dict kvs, h => by
    simp only [PyData.shown]
    exact ok_app (ok_app (ok_ofString _) (ok_sjoin _ (ok_ofString _) _ (ok_shownKv kvs (by simpa only [lay] using h)))) (ok_ofString _)
theorem ok_shownAll : ∀ xs : List PyData, layL xs = true → ∀ t ∈ PyData.shownAll xs, PyData.strOk t = true
  | [], _, t, ht => by simp [PyData.shownAll] at ht
  | x :: xs, h, t, ht => by
    simp only [layL, Bool.and_eq_true] at h
    simp only [PyData.shownAll, List.mem_cons] at ht
    rcases ht with rfl | ht
    · exact ok_shown x h.1
    · exact ok_shownAll xs h.2 t ht
theorem ok_shownKv : ∀ xs : List (PyData × PyData), layK xs = true → ∀ t ∈ PyData.shownKv xs, PyData.strOk t = true
  | [], _, t, ht => by simp [PyData.shownKv] at ht
  | (k, v) :: xs, h, t, ht => by
    simp only [layK, Bool.and_eq_true] at h
    simp only [PyData.shownKv, List.mem_cons] at ht
    rcases ht with rfl | ht
    · exact ok_app (ok_app (ok_shown k h.1.1) (ok_ofString _)) (ok_shown v h.1.2)
    · exact ok_shownKv xs h.2 t ht
end
/-- the text of data, as data -/
theorem Tame.text {d : PyData} {k n : Nat} (t : Tame d k n) : Tame (.str d.shown) 1 (302 * n + 300) := by
  have := PyData.shown_le_bulk 300 (by decide) d t.short
  have := t.bulk
  exact tame_str (by omega) (ok_shown d t.lay)
theorem walk_r0 {n : Nat} : Walk (Itr 0 n) n (fun _ => True) (fun i H x H' => H' = H ∧ x = .int (i : Nat)) :=
  walk_range.mono (fun _ _ => trivial) fun i H x H' _ _ y => ⟨y.1, by rw [y.2]; show V.int (0 + (i : Int)) = _; rw [Int.zero_add]⟩
end PC

set_option Elab.async false
set_option linter.all false
set_option maxRecDepth 100000
set_option maxHeartbeats 2000000
/-! PcE: the program's own error classes: made, raised, caught, asked. -/
namespace PC
open PySem PySem.Spec PySem.W PySem.Calls PyProof.Rows L2
open Builtin Builtin.ObjectAttr

/-- a built-in class over which error classes of the program stand -/
structure ErrBase (B newId initId : String) (tl : List Value) : Prop where
  f : ExcBaseFacts B newId initId tl
  pass : ∀ x, refuseLoop x "__setattr__" tl = pure ()
  obj : tl.contains (.type "object") = true
  hand : handedIn (.builtin initId) = true
theorem eb_value : ErrBase "ValueError" "ValueError.__new__" "ValueError.__init__" [.type "ValueError", .type "Exception", .type "BaseException", .type "object"] :=
  ⟨F.excBase_ValueError, F.store_ValueError.passes, by decide +kernel, by first | rfl | decide +kernel⟩
theorem eb_lookup : ErrBase "LookupError" "LookupError.__new__" "LookupError.__init__" [.type "LookupError", .type "Exception", .type "BaseException", .type "object"] :=
  ⟨F.excBase_LookupError, F.store_LookupError.passes, by decide +kernel, by first | rfl | decide +kernel⟩
theorem eb_runtime : ErrBase "RuntimeError" "RuntimeError.__new__" "RuntimeError.__init__" [.type "RuntimeError", .type "Exception", .type "BaseException", .type "object"] :=
  ⟨F.excBase_RuntimeError, F.store_RuntimeError.passes, by decide +kernel, by first | rfl | decide +kernel⟩
theorem eb_arith : ErrBase "ArithmeticError" "ArithmeticError.__new__" "ArithmeticError.__init__" [.type "ArithmeticError", .type "Exception", .type "BaseException", .type "object"] :=
  ⟨F.excBase_ArithmeticError, F.store_ArithmeticError.passes, by decide +kernel, by first | rfl | decide +kernel⟩

theorem mro_has {C D : Addr} {tl : List Value} (T : String) : (Value.ref C :: .ref D :: tl).contains (.type T) = tl.contains (.type T) := by
  rw [List.contains_cons, List.contains_cons]
  rfl
theorem mro_has1 {D : Addr} {tl : List Value} (T : String) : (Value.ref D :: tl).contains (.type T) = tl.contains (.type T) := by
  rw [List.contains_cons]
  rfl

section
variable {prog : Program} {w : World} {A : Around} {R : Result → Shared → Prop}
  {u : Heap} {g : Array GenState} {dr : Drawn} {n : Nat} {os : OsState}
  {B newId initId : String} {tl : List Value}
/-- what the two ways to a field share -/
theorem err_set {K : W.Frag} {f : Str} {tk : Tok} {v : Value} {x C D : Addr} {ox : Obj} {od : Option Obj} {cd : ClassData}
    (BB : ErrBase B newId initId tl) (X : K.In u) (J : W.InstAt u x ox C od)
    (hcd : W.clsIn K C = some cd) (hm : cd.mro = .ref C :: .ref D :: tl) (hf : W.findIn K (.ref C) f = some none)
    (hq : wpAny (model prog w) A.in1 (storeInOwnDict (.ref x) (.ref C) (.str f tk) f v false)
      (fun fin s' => match fin with
        | .done y => R (.ok y) s'
        | .again c' => c'.quiet = true ∧ codeAny (model prog w) A c' R s') (fun e s' => R (.error e) s') ⟨u, g, dr, n, os⟩) :
    codeAny (model prog w) A (.call (.builtin "object.__setattr__") ⟨[.ref x, .str f tk, v], []⟩) R ⟨u, g, dr, n, os⟩ := by
  have S := F.store_object
  have h1 : cd.mro.contains (.type "object") = true := by
    rw [hm, mro_has]
    exact BB.obj
  have h2 : W.mroIn K C (.type "object") = some true := by
    unfold W.mroIn
    rw [hcd, Option.bind_some, h1, hm]
    rfl
  have h3 : W.Looks (model prog w) u (isInstance (.ref x) (.type "object")) true := J.type.andThen (W.looks_mroIn X h2)
  have h4 : W.Looks (model prog w) u (mroOf (.ref C)) cd.mro := (W.looks_clsIn X hcd).andThen .now
  have h5 : W.Looks (model prog w) u (storeTaker? none) none := .now
  have h6 : refuseLoop (.ref x) "__setattr__" cd.mro = pure () := by
    rw [hm, refuseLoop_ref, refuseLoop_ref]
    exact BB.pass _
  refine codeAny_call_builtin S.slot.plain S.entry
    (@W.check_slot (model prog w) _ _ ⟨u, g, dr, n, os⟩ "object.__setattr__" "object" "__setattr__" (.ref x) [.str f tk, v] [] _
      S.kind S.split h3 (S.args (.ref x) (.str f tk) v) ?_)
  rw [W.osa_eq, refuse_eq]
  refine wpAny_bind (wpAny_bind (J.type.at (wpAny_bind (h4.at ?_))))
  rw [h6]
  exact wpAny_pure (wpAny_bind (J.type.at (wpAny_bind ((W.looks_findIn X hf).at (wpAny_bind (h5.at hq))))))
/-- the first field -/
theorem err_set0 {K : W.Frag} {f : Str} {tk : Tok} {v : Value} {x C D : Addr} {fv : Array Value} {cd : ClassData}
    (BB : ErrBase B newId initId tl) (X : K.In u) (hx : u.get? x = some { cls := .ref C, data := .fields fv })
    (hcd : W.clsIn K C = some cd) (hm : cd.mro = .ref C :: .ref D :: tl) (hd : cd.hasDict = true) (hf : W.findIn K (.ref C) f = some none)
    (hq : ∀ u' n' dx, (∀ b o, b ≠ x → u.get? b = some o → u'.get? b = some o) → u.objs.size ≤ dx → dx ≠ x →
      u'.get? x = some { cls := .ref C, dict := some dx, data := .fields fv } →
      u'.Ns1 dx (fun y => if y = f then some v else none) → R (.ok (.ret .none)) ⟨u', g, dr, n', os⟩) :
    codeAny (model prog w) A (.call (.builtin "object.__setattr__") ⟨[.ref x, .str f tk, v], []⟩) R ⟨u, g, dr, n, os⟩ := by
  have J : W.InstAt u x { cls := .ref C, data := .fields fv } C none := ⟨hx, rfl, rfl, trivial⟩
  have lt : x ≠ u.objs.size := Nat.ne_of_lt (Heap.lt_size hx)
  refine err_set BB X J hcd hm hf ?_
  have hc : W.Looks (model prog w) u (classData C) cd := W.looks_clsIn X hcd
  obtain ⟨c1, c2, c3, c4, c5, c6, c7, c8, c9, c10, c11⟩ := cd
  dsimp only at hd
  subst hd
  unfold storeInOwnDict ownDictForStores
  repeat (first
    | with_reducible refine HandSPX.store_in_new ?_ ?_
    | with_reducible refine wpAny_loadPart_at hx ?_
    | with_reducible refine hc.at ?_
    | wp_step)
  · exact ⟨_, #[], _, (Heap.get?_update_ne _ _ _ _ lt.symm).trans (Heap.get?_push_at rfl rfl), rfl,
      fun e he => absurd he (by simp), fun _ => rfl⟩
  · intro u' n' hn hs
    have hx' : (u.push { cls := .type "dict", data := .dict #[] }).get? x = some { cls := .ref C, data := .fields fv } :=
      Heap.get?_push_of_some _ hx
    refine hq u' n' u.objs.size (fun b o hb ho => ?_) (Nat.le_refl _) lt.symm ?_ hn
    · exact (hs.2 b (Nat.ne_of_lt (Heap.lt_size ho))).trans
        ((Heap.get?_update_ne _ _ _ _ hb).trans (Heap.get?_push_of_some _ ho))
    · exact (hs.2 x lt).trans (Heap.get?_update_self _ hx' rfl)
theorem put_in {M : Model} {A : Around} {E : Value → Shared → Prop} {dx : Addr} {f : Str} {tk : Tok} {v : Value}
    {m0 : Str → Option Value} {ns : List Str} {Q : Fin → Shared → Prop} (hn : u.Ns1 dx m0) (hw : Within m0 ns) (hz : ns.length ≤ 1000)
    (hq : ∀ u' n', u'.Ns1 dx (fun y => if y = f then some v else m0 y) → Heap.SameBut dx u u' → Q (.done (.ret .none)) ⟨u', g, dr, n', os⟩) :
    wpAny M A (storeInDict dx (.str f tk) f v) Q E ⟨u, g, dr, n, os⟩ := by
  unfold storeInDict newKeyGuard
  refine wpAny_bind (wpAny_pure (wpAny_bind (wpAny_nsSet1 hn fun u' hn' hs => ?_)))
  obtain ⟨o1, e1, p1, ho1, hd1, hc1⟩ := hn'.count (Within.cons f v hw)
  have few : e1.size ≤ sizeLine := by
    refine Nat.le_trans hc1 ?_
    rw [List.length_cons, sizeLine_eq]
    omega
  refine wpAny_bind (wpAny_lookBehind ho1 (by rw [hd1]; exact pastItsLine_dict (Nat.le_succ_of_le few)) ?_)
  wp_walk
  exact hq u' _ hn' hs
/-- a further field -/
theorem err_set1 {K : W.Frag} {f : Str} {tk : Tok} {v : Value} {x C D dx : Addr} {fv : Array Value} {cd : ClassData}
    {m0 : Str → Option Value} {ns : List Str}
    (BB : ErrBase B newId initId tl) (X : K.In u) (hx : u.get? x = some { cls := .ref C, dict := some dx, data := .fields fv })
    (hn : u.Ns1 dx m0) (hw : Within m0 ns) (hz : ns.length ≤ 1000)
    (hcd : W.clsIn K C = some cd) (hm : cd.mro = .ref C :: .ref D :: tl) (hd : cd.hasDict = true) (hf : W.findIn K (.ref C) f = some none)
    (hq : ∀ u' n', (∀ b o, b ≠ dx → u.get? b = some o → u'.get? b = some o) →
      u'.Ns1 dx (fun y => if y = f then some v else m0 y) → R (.ok (.ret .none)) ⟨u', g, dr, n', os⟩) :
    codeAny (model prog w) A (.call (.builtin "object.__setattr__") ⟨[.ref x, .str f tk, v], []⟩) R ⟨u, g, dr, n, os⟩ := by
  obtain ⟨o1, e1, p1, ho1, hd1, hc1⟩ := hn.count hw
  have J : W.InstAt u x { cls := .ref C, dict := some dx, data := .fields fv } C (some o1) := ⟨hx, rfl, rfl, ho1⟩
  refine err_set BB X J hcd hm hf ?_
  have hc : W.Looks (model prog w) u (classData C) cd := W.looks_clsIn X hcd
  obtain ⟨c1, c2, c3, c4, c5, c6, c7, c8, c9, c10, c11⟩ := cd
  dsimp only at hd
  subst hd
  unfold storeInOwnDict ownDictForStores
  repeat (first
    | with_reducible refine put_in hn hw hz ?_
    | with_reducible refine wpAny_loadPart_at hx ?_
    | with_reducible refine hc.at ?_
    | wp_step)
  intro u' n' hn' hs
  exact hq u' n' (fun b o hb ho => (hs.2 b hb).trans ho) hn'
end

/-! ### the text of an error class -/
abbrev P4 := Pos × Pos × Pos × Pos
def erSt (f : Str) (p : P4) : Stmt := .Assign [.Attribute (.Name "self" p.1) f p.2.1] (.Name f p.2.2.1) p.2.2.2
/-- `__init__(self, f, ..)` of an error class over `base`: the base's own, then the fields -/
structure ErDef (st : Stmt) (qual base : Str) (f : Str) (fs : List Str) : Prop where
  bind : ∀ (kV doc pm : Value) (an : Option Addr) (cdv ct : Value) (us : List Value), us.length = (f :: fs).length + 1 →
    bindArgs (fnOf "__init__" qual (defArgs st) (defBody st) (defScope st) .none kV doc pm an cdv ct) ⟨us, []⟩ = pure ((("self" : Str) :: f :: fs).zip us)
  co : (defScope st).isCoroutine = false
  gen : (defScope st).isGenerator = false
  kind : (defScope st).kind = .function
  loc : ∀ y ∈ (("self" : Str) :: f :: fs), (defScope st).names.lookup y = some .local
  glo : (defScope st).names.lookup base = some .globalImplicit
  nd : (("self" : Str) :: f :: fs).Nodup
  few : fs.length ≤ 100
  ndb : ((f == ("__debug__" : Str)) = false) ∧ (∀ y ∈ fs, (y == ("__debug__" : Str)) = false) ∧ (base == ("__debug__" : Str)) = false
  hi : ∀ (L a : Addr) (cd : Value), interactive (envOfC qual (defScope st) L a cd) = false
  body : ∃ (text : Str) (j : Nat) (q1 q2 q3 q4 q5 q6 : Pos) (r : P4) (rs : List P4) (pl : Addr → Addr → Value → Sem Bool), rs.length = fs.length ∧
    (∀ (L a : Addr) (cd : Value), eval (.Call (.Attribute (.Name base q1) "__init__" q2) [.Name "self" q3, .Constant (.str text) j q4] [] q5) (envOfC qual (defScope st) L a cd) = (do
      let ov ← eval (.Name base q1) (envOfC qual (defScope st) L a cd)
      standAt q2.atName
      let (m, first) ← holding [ov] (getMethod ov "__init__" (pl L a cd))
      callWith q5 m first (backTo q5 (starEach [.Name "self" q3, .Constant (.str text) j q4] (envOfC qual (defScope st) L a cd)))
        (backToKw q5 (keywordEach [] (envOfC qual (defScope st) L a cd))))) ∧
    defBody st = .Expr (.Call (.Attribute (.Name base q1) "__init__" q2) [.Name "self" q3, .Constant (.str text) j q4] [] q5) q6 ::
      erSt f r :: (fs.zip rs).map fun y => erSt y.1 y.2
/-- what the written part says of the error class at C over the program's class at D -/
structure ErrT (K : Frag) (mg : Str → Option Value) (nm base : Str) (B newId initId : String) (tl : List Value) (f : Str) (fs : List Str)
    (C D fI : Addr) (st : Stmt) : Prop where
  bb : ErrBase B newId initId tl
  gC : mg nm = some (.ref C)
  gD : mg base = some (.ref D)
  cls : ∃ n1 q N bs sn sub ab col dd k0 k1 k2 k3 k5,
    K.lookup C = some (excClassObj n1 q C N bs (.ref D :: tl) true sn sub ab col dd k0 k1 k2 k3 k5 newId)
  sa : findIn K (.ref C) "__setattr__" = some (some (.builtin "object.__setattr__"))
  noF : ∀ y ∈ f :: fs, findIn K (.ref C) y = some none
  iC : findIn K (.ref C) "__init__" = some (some (.ref fI))
  tI : typeIn K (.ref fI) = some (.type "function")
  kC : keepIn K (.ref C) = true
  eC : subIn K (.ref C) (.type "BaseException") = some true
  tC : typeIn K (.ref C) = some (.type "type")
  rD : readsIn K D (.type "type") = true
  gaD : specialIn K (.ref D) "__getattribute__" = some (some (.builtin "type.__getattribute__"))
  iD : findCls K (.ref D) (.type "type") "__init__" = some (.val (.builtin initId))
  fn : ∃ (qual : Str) (oc : Value) (od : Option Addr) (kV doc pm : Value) (an : Option Addr) (cdv ct : Value) (osl : Array (Option Value)),
    K.lookup fI = some ⟨oc, od, .func (fnOf "__init__" qual (defArgs st) (defBody st) (defScope st) .none kV doc pm an cdv ct), osl⟩ ∧
    codeIn K cdv qual = true ∧ ErDef st qual base f fs

theorem bindL_get {k : Str → Option NameKind} : ∀ (r : List (Str × Value)) (m : Str → Option Value), (∀ y ∈ r, k y.1 = some .local) →
    (r.map (·.1)).Nodup → ∀ n, (n ∉ r.map (·.1) → bindL k r m n = m n) ∧ ∀ v, (n, v) ∈ r → bindL k r m n = some v := by
  intro r
  induction r with
  | nil => exact fun m _ _ n => ⟨fun _ => rfl, fun v h => by cases h⟩
  | cons y r ih =>
    obtain ⟨x, u⟩ := y
    intro m hk hn n
    rw [List.map_cons, List.nodup_cons] at hn
    have hx : k x = some .local := hk (x, u) List.mem_cons_self
    obtain ⟨i1, i2⟩ := ih (fun y => if y = x then some u else m y) (fun y hy => hk y (List.mem_cons_of_mem _ hy)) hn.2 n
    have e : bindL k ((x, u) :: r) m = bindL k r (fun y => if y = x then some u else m y) := by
      show bindL k r (if k x = some .local then _ else m) = _
      rw [if_pos hx]
    rw [e]
    refine ⟨fun h => ?_, fun v h => ?_⟩
    · rw [List.map_cons, List.mem_cons, not_or] at h
      rw [i1 h.2, if_neg h.1]
    · rcases List.mem_cons.mp h with q | q
      · cases q
        rw [i1 hn.1, if_pos rfl]
      · exact i2 v q
theorem ns1_put {u : Heap} {dx : Addr} {f : Str} {v : Value} {acc : List (Str × Value)}
    (h : u.Ns1 dx (fun y => if y = f then some v else acc.lookup y)) : u.Ns1 dx fun y => ((f, v) :: acc).lookup y := by
  have e : (fun y => ((f, v) :: acc).lookup y) = fun y => if y = f then some v else acc.lookup y := by
    funext y
    by_cases c : y = f
    · subst c
      simp [List.lookup]
    · have c' : (y == f) = false := by simpa using c
      rw [if_neg c]
      simp [List.lookup, c']
  rw [e]
  exact h
theorem within_lk {acc : List (Str × Value)} : Within (fun y => acc.lookup y) (acc.map (·.1)) := by
  intro y h
  induction acc with
  | nil => exact absurd rfl h
  | cons p r ih =>
    obtain ⟨f, v⟩ := p
    by_cases c : y = f
    · subst c
      exact List.mem_cons_self
    · have c' : (y == f) = false := by simpa using c
      refine List.mem_cons_of_mem _ (ih ?_)
      have e : ((f, v) :: r).lookup y = r.lookup y := by simp [List.lookup, c']
      exact fun z => h (e.trans z)
theorem zip3 {α β γ δ : Type} (g : α × β → δ) : ∀ (fs : List α) (rs : List β) (vs : List γ), rs.length = fs.length → vs.length = fs.length →
    (fs.zip rs).map g = ((fs.zip rs).zip vs).map (fun y => g y.1) ∧ ((fs.zip rs).zip vs).map (fun y => (y.1.1, y.2)) = fs.zip vs ∧
    ∀ y ∈ (fs.zip rs).zip vs, y.1.1 ∈ fs ∧ (y.1.1, y.2) ∈ fs.zip vs
  | [], _, _, _, _ => ⟨rfl, rfl, fun _ h => by cases h⟩
  | a :: fs, b :: rs, c :: vs, h1, h2 => by
    obtain ⟨i1, i2, i3⟩ := zip3 g fs rs vs (Nat.succ.inj h1) (Nat.succ.inj h2)
    refine ⟨?_, ?_, fun y hy => ?_⟩
    · show g (a, b) :: (fs.zip rs).map g = g (a, b) :: ((fs.zip rs).zip vs).map (fun y => g y.1)
      rw [i1]
    · show (a, c) :: ((fs.zip rs).zip vs).map (fun y => (y.1.1, y.2)) = (a, c) :: fs.zip vs
      rw [i2]
    · rcases List.mem_cons.mp (show y ∈ ((a, b), c) :: (fs.zip rs).zip vs from hy) with e | e
      · subst e
        exact ⟨List.mem_cons_self, List.mem_cons_self⟩
      · exact ⟨List.mem_cons_of_mem _ (i3 y e).1, List.mem_cons_of_mem _ (i3 y e).2⟩
theorem kin_but {K : Frag} {u u' : Heap} {x : Addr} (X : K.In u) (hx : K.lookup x = none)
    (k : ∀ b o, b ≠ x → u.get? b = some o → u'.get? b = some o) : K.In u' := fun b o e =>
  k b o (fun z => by rw [z, hx] at e; cases e) (X b o e)
theorem ns_but {u u' : Heap} {x L : Addr} {m : Str → Option Value} (h : u.Ns L m) (hx : L ≠ x)
    (k : ∀ b o, b ≠ x → u.get? b = some o → u'.get? b = some o) : u'.Ns L m := h.at fun o e => k L o hx e

section
variable {prog : Program} {w : World} {A : Around} {E : Value → Shared → Prop} {s : Shared} {K : Frag} {mg : Str → Option Value}
  {nm base : Str} {B newId initId : String} {tl : List Value} {f : Str} {fs : List Str} {C D fI : Addr} {st : Stmt}
theorem ld_l {M : Model} {env : Env} {m : Str → Option Value} {x : Str} {pos : Pos} {v : Value} {Q : Value → Shared → Prop}
    (hn : s.heap.Ns env.locals m) (hv : m x = some v) (hk : env.scope.kind = .function) (hl : env.kindOf x = some .local)
    (hd : (x == ("__debug__" : Str)) = false) (h : Q v s) : wpAny M A (eval (.Name x pos) env) Q E s :=
  wpAny_Name (wpAny_loadName_local hk hl hn hv h) hd
/-- what a made error is -/
structure ErMade (h h' : Heap) (e C d : Addr) (acc : List (Str × Value)) : Prop where
  keep : ∀ b o, h.get? b = some o → h'.get? b = some o
  new : h.objs.size ≤ e
  obj : ∃ t, h'.get? e = some { cls := .ref C, dict := some d, data := .fields #[.ref t, .none, .none, .none, .bool false, .none] }
  dbig : h.objs.size ≤ d
  dne : d ≠ e
  ns : h'.Ns1 d fun y => acc.lookup y
theorem er_stores (T : ErrT K mg nm base B newId initId tl f fs C D fI st) {env : Env} {x dx : Addr} {m : Str → Option Value} {fv : Array Value}
    (hkd : env.scope.kind = .function) (hs : m "self" = some (.ref x)) (hks : env.kindOf "self" = some .local)
    (hLx : env.locals ≠ dx) (hKd : K.lookup dx = none) (hxd : x ≠ dx) :
    ∀ (ys : List ((Str × P4) × Value)) (acc : List (Str × Value)) (s : Shared) (Q : Flow → Shared → Prop),
      K.In s.heap → s.heap.Ns env.locals m → (∀ y ∈ ys, m y.1.1 = some y.2 ∧ env.kindOf y.1.1 = some .local ∧
        findIn K (.ref C) y.1.1 = some none ∧ (y.1.1 == ("__debug__" : Str)) = false) →
      s.heap.get? x = some { cls := .ref C, dict := some dx, data := .fields fv } → (s.heap.Ns1 dx fun y => acc.lookup y) →
      acc.length + ys.length ≤ 1000 →
      (∀ h' tk, (∀ b o, b ≠ dx → s.heap.get? b = some o → h'.get? b = some o) →
        (h'.Ns1 dx fun y => ((ys.map fun y => (y.1.1, y.2)).reverse ++ acc).lookup y) → Q .next { s with heap := h', toks := tk }) →
      wpAny (model prog w) A (execs (ys.map fun y => erSt y.1.1 y.1.2) env) Q E s
  | [], acc, s, Q, X, hn, hy, hx, h1, hz, hq => wpAny_execs_nil (hq s.heap s.toks (fun _ _ _ e => e) (by simpa using h1))
  | y :: ys, acc, s, Q, X, hn, hy, hx, h1, hz, hq => by
    obtain ⟨n1, q, N, bs, sn, sub, ab, col, dd, k0, k1, k2, k3, k5, hC⟩ := T.cls
    have hcl : clsIn K C = some { name := n1, bases := bs, mro := .ref C :: .ref D :: tl, ns := N, qualname := q, hasDict := true, slotNames := sn, subclasses := sub, abstract := ab, collection := col, hasDel := false } := by
      unfold clsIn
      rw [hC] <;> rfl
    obtain ⟨y1, y2, y3, y4⟩ := hy y List.mem_cons_self
    obtain ⟨o1, e1, p1, ho1, _, _⟩ := h1.count within_lk
    show wpAny _ _ (execs (erSt y.1.1 y.1.2 :: _) env) _ _ _
    refine wpAny_execs_cons (plainObj_wpAny_Assign_Attribute ?_ (by rfl))
    refine ld_l hn y1 hkd y2 y4 (ld_l hn hs hkd hks (by decide) ?_)
    refine set_plain X (ox := { cls := .ref C, dict := some dx, data := .fields fv }) (od := some o1) ⟨hx, rfl, rfl, ho1⟩ T.sa ?_
    refine err_set1 T.bb X hx h1 within_lk (by rw [List.length_map]; omega) hcl rfl rfl y3 (fun u' n' k hn' => ?_)
    show wpAny _ _ (execs _ _) _ _ _
    refine er_stores T hkd hs hks hLx hKd hxd ys ((y.1.1, y.2) :: acc) { s with heap := u', toks := n' } Q (kin_but X hKd k)
      (ns_but hn hLx k) (fun z hz => hy z (List.mem_cons_of_mem _ hz)) (k _ _ hxd hx) (ns1_put hn')
      (by rw [List.length_cons] at hz ⊢; omega) (fun h' tk k' hn2 => ?_)
    refine hq h' tk (fun b o hb e => k' b o hb (k b o hb e)) ?_
    have e : ((y :: ys).map fun y => (y.1.1, y.2)).reverse ++ acc = ((ys.map fun y => (y.1.1, y.2)).reverse) ++ (y.1.1, y.2) :: acc := by
      rw [List.map_cons, List.reverse_cons, List.append_assoc]
      rfl
    rw [e]
    exact hn2
theorem er_init (T : ErrT K mg nm base B newId initId tl f fs C D fI st) {R : Result → Shared → Prop} {x t0 : Addr} {v : Value} {vs : List Value}
    (X : K.In s.heap) (hg : s.heap.Ns mainGlobals mg) (hgx : mainGlobals ≠ x) (hlim : s.heap.NoLimit) (hx : s.heap.get? x = some (HandSPX.excO C t0))
    (hnx : K.lookup x = none) (hroom : A.depth < recursionLimit) (hl : vs.length = fs.length)
    (hq : ∀ h' tk dx t1, (∀ b o, b ≠ x → s.heap.get? b = some o → h'.get? b = some o) →
      h'.get? x = some { cls := .ref C, dict := some dx, data := .fields #[.ref t1, .none, .none, .none, .bool false, .none] } →
      s.heap.objs.size ≤ dx → dx ≠ x → (h'.Ns1 dx fun y => ((fs.zip vs).reverse ++ [(f, v)]).lookup y) → R (.ok (.ret .none)) { s with heap := h', toks := tk }) :
    codeAny (model prog w) A (.call (.ref fI) ⟨.ref x :: v :: vs, []⟩) R s := by
  obtain ⟨qual, oc, od, kV, doc, pm, an, cdv, ct, osl, ho, hcd, df⟩ := T.fn
  obtain ⟨n1, q, N, bs, sn, sub, ab, col, dd, k0, k1, k2, k3, k5, hC⟩ := T.cls
  have hcl : clsIn K C = some { name := n1, bases := bs, mro := .ref C :: .ref D :: tl, ns := N, qualname := q, hasDict := true, slotNames := sn, subclasses := sub, abstract := ab, collection := col, hasDel := false } := by
    unfold clsIn
    rw [hC] <;> rfl
  obtain ⟨text, j, q1, q2, q3, q4, q5, q6, r, rs, pl, hrs, hev, hbd⟩ := df.body
  have hzl : (("self" : Str) :: f :: fs).length = (Value.ref x :: v :: vs).length := by simp [hl]
  have all : ∀ y ∈ (("self" : Str) :: f :: fs).zip (Value.ref x :: v :: vs), (defScope st).names.lookup y.1 = some .local := by
    rintro ⟨y1, y2⟩ hy
    exact df.loc y1 (List.of_mem_zip hy).1
  refine Att.call_fn (binds := (("self" : Str) :: f :: fs).zip (.ref x :: v :: vs)) X hlim ho hcd hroom
    (BindsTo.of_eq (df.bind _ _ _ _ _ _ _ (by simp [hl]))) (List.all_eq_true.mpr fun y hy => ?_) (fun s₁ IC => ?_) df.co df.gen df.kind
  · rw [all y hy]
    rfl
  obtain ⟨h₁, tk₁, rfl⟩ := IC.toInCall.same
  have k : ∀ b o, s.heap.get? b = some o → h₁.get? b = some o := IC.toInCall.keep
  have hn := IC.toInCall.ns
  have hxL : s.heap.objs.size ≠ x := Nat.ne_of_gt (Heap.lt_size hx)
  have X₁ : K.In h₁ := X.keeps k
  have hx₁ := k _ _ hx
  have hg₁ : h₁.Ns mainGlobals mg := hg.keeps k
  have hmk : ((("self" : Str) :: f :: fs).zip (Value.ref x :: v :: vs)).map (·.1) = ("self" : Str) :: f :: fs := List.map_fst_zip (Nat.le_of_eq hzl)
  have get : ∀ n u, (n, u) ∈ (("self" : Str) :: f :: fs).zip (Value.ref x :: v :: vs) → bindL (envOfC qual (defScope st) s.heap.objs.size fI cdv).kindOf
      ((("self" : Str) :: f :: fs).zip (Value.ref x :: v :: vs)) (fun _ => none) n = some u := fun n u h =>
    (bindL_get _ _ all (by rw [hmk]; exact df.nd) n).2 u h
  have hself := get "self" (.ref x) List.mem_cons_self
  have hf := get f v (List.mem_cons_of_mem _ List.mem_cons_self)
  have kl : ∀ y ∈ (("self" : Str) :: f :: fs), (envOfC qual (defScope st) s.heap.objs.size fI cdv).kindOf y = some .local := df.loc
  rw [hbd]
  show wpAny _ _ (execs _ _) _ _ _
  -- Base.__init__(self, text)
  refine wpAny_execs_cons (wpAny_Expr_any (methodCall_KW ?_ (hev _ _ _)) (df.hi _ _ _) (by rfl))
  refine Name_function_global (env := envOfC qual (defScope st) s.heap.objs.size fI cdv) df.kind df.glo
    (loadGlobal_global (s := { s with heap := h₁, toks := tk₁ }) (env := envOfC qual (defScope st) s.heap.objs.size fI cdv) hg₁ T.gD ?_) df.ndb.2.2
  refine method_cls X₁ T.gaD (cls_value X₁ T.rD T.iD T.bb.hand ?_)
  refine callWith_method1 (spliced_more (ld_l hn hself df.kind (kl _ List.mem_cons_self) (by decide) (spliced_more (Constant_str (spliced_none ?_))))) (by rfl) (by rfl)
  refine wpAny_call (HandSPX.init_base T.bb.f (fun Y => mro_has1 Y) (X₁ _ _ hC) hx₁ ?_ fun h₂ t2 k2 hx₂ => ?_)
  · rw [sizeLine_eq]
    exact (by decide : 1 ≤ 16777216)
  have X₂ : K.In h₂ := kin_but X₁ hnx k2
  have hn₂ := ns_but hn hxL k2
  -- the first field
  show wpAny _ _ (execs (erSt f r :: _) _) _ _ _
  refine wpAny_execs_cons (plainObj_wpAny_Assign_Attribute ?_ (by rfl))
  refine ld_l hn₂ hf df.kind (kl _ (List.mem_cons_of_mem _ List.mem_cons_self)) df.ndb.1 (ld_l hn₂ hself df.kind (kl _ List.mem_cons_self) (by decide) ?_)
  refine set_plain X₂ (ox := HandSPX.excO C t2) (od := none) ⟨hx₂, rfl, rfl, trivial⟩ T.sa ?_
  refine err_set0 T.bb X₂ hx₂ hcl rfl rfl (T.noF f List.mem_cons_self) (fun h₃ tk₃ dx k₃ dn dne hx₃ hn₃ => ?_)
  show wpAny _ _ (execs _ _) _ _ _
  have keep2 : ∀ b o, b ≠ x → s.heap.get? b = some o → h₂.get? b = some o := fun b o hb e => k2 b o hb (k b o e)
  have L2 : s.heap.objs.size < h₂.objs.size := hn₂.lt
  have big : s.heap.objs.size ≤ dx := Nat.le_trans (Nat.le_of_lt L2) dn
  have hKd : K.lookup dx = none := by
    cases e : K.lookup dx with
    | none => rfl
    | some o => exact absurd (Heap.lt_size (X _ _ e)) (Nat.not_lt.mpr big)
  obtain ⟨eqs, eqn, eqm⟩ := zip3 (fun y : Str × P4 => erSt y.1 y.2) fs rs vs hrs hl
  rw [eqs]
  refine er_stores T (x := x) (dx := dx) df.kind hself (kl _ List.mem_cons_self) (Nat.ne_of_lt (Nat.lt_of_lt_of_le L2 dn)) hKd (Ne.symm dne) _ [(f, v)] _ _ (kin_but X₂ hnx k₃) (ns_but hn₂ hxL k₃)
    (fun y hy => ?_) hx₃ (ns1_put hn₃) (by have := df.few; simp [List.length_zip]; omega) (fun h' tk k4 hn4 => ?_)
  · obtain ⟨m1, m2⟩ := eqm y hy
    exact ⟨get _ _ (List.mem_cons_of_mem _ (List.mem_cons_of_mem _ m2)), kl _ (List.mem_cons_of_mem _ (List.mem_cons_of_mem _ m1)),
      T.noF _ (List.mem_cons_of_mem _ m1), df.ndb.2.1 _ m1⟩
  · refine hq h' tk dx t2 (fun b o hb e => k4 b o ?_ (k₃ b o hb (keep2 b o hb e))) (k4 _ _ (Ne.symm dne) hx₃) big dne ?_
    · exact Nat.ne_of_lt (Nat.lt_of_lt_of_le (Heap.lt_size e) big)
    · rw [← eqn]
      exact hn4
end
section
variable {prog : Program} {w : World} {A : Around} {E : Value → Shared → Prop} {s : Shared} {K : Frag} {mg : Str → Option Value}
  {nm base : Str} {B newId initId : String} {tl : List Value} {f : Str} {fs : List Str} {C D fI : Addr} {st : Stmt}
theorem er_made (T : ErrT K mg nm base B newId initId tl f fs C D fI st) {R : Result → Shared → Prop} {v : Value} {vs : List Value}
    (X : K.In s.heap) (hg : s.heap.Ns mainGlobals mg) (hlim : s.heap.NoLimit) (hroom : A.depth + 1 < recursionLimit) (hl : vs.length = fs.length)
    (hq : ∀ h' tk e d, ErMade s.heap h' e C d ((fs.zip vs).reverse ++ [(f, v)]) → R (.ok (.ret (.ref e))) { s with heap := h', toks := tk }) :
    codeAny (model prog w) A (.call (.ref C) ⟨v :: vs, []⟩) R s := by
  obtain ⟨n1, q, N, bs, sn, sub, ab, col, dd, k0, k1, k2, k3, k5, hC⟩ := T.cls
  obtain ⟨_, _, _, _, _, _, _, _, _, _, _, _, df⟩ := T.fn
  obtain ⟨u, g, dr, tk, os⟩ := s
  have old : ∀ b o, u.get? b = some o → ((u.push (kdv_tup (v :: vs))).push (HandSPX.excO C u.objs.size)).get? b = some o :=
    fun b o e => Heap.get?_push_of_some _ (Heap.get?_push_of_some _ e)
  have hget : ((u.push (kdv_tup (v :: vs))).push (HandSPX.excO C u.objs.size)).get? (u.objs.size + 1) = some (HandSPX.excO C u.objs.size) := by
    heap_get
  have fresh : ∀ {b : Addr} {o : Obj}, u.get? b = some o → b ≠ u.objs.size + 1 := fun e =>
    Nat.ne_of_lt (Nat.lt_succ_of_lt (Heap.lt_size e))
  have hnx : K.lookup (u.objs.size + 1) = none := by
    cases e : K.lookup (u.objs.size + 1) with
    | none => rfl
    | some o => exact absurd rfl (fresh (X _ _ e))
  have few : (v :: vs).length ≤ sizeLine := by
    have := df.few
    rw [List.length_cons, hl, sizeLine_eq]
    omega
  refine HandSPX.call_own T.bb.f (fun Y => mro_has1 Y) (X _ _ hC) (looks_findIn X T.iC) (fun self => bind_fn X self T.tI) few ?_
  refine er_init (s := ⟨(u.push (kdv_tup (v :: vs))).push (HandSPX.excO C u.objs.size), g, dr, tk, os⟩) T (X.keeps old) (hg.keeps old) ?_
    (hlim.keeps old) hget hnx ?_ hl fun h' tk' dx t1 k' hx dn dne hns => ?_
  · obtain ⟨o, _, _, e, _⟩ := hg
    exact fresh e
  · show A.depth + 1 < recursionLimit
    exact hroom
  · have z : u.objs.size + 1 + 1 ≤ dx := by
      have q := dn
      simp only [Heap.size_push] at q
      exact q
    exact ⟨rfl, hq h' tk' (u.objs.size + 1) dx ⟨fun b o e => k' b o (fresh e) (old b o e), Nat.le_succ _, ⟨t1, hx⟩, Nat.le_of_succ_le (Nat.le_of_succ_le z), dne, hns⟩⟩
end

/-! ### C(e, ..), C an error class, to be raised -/
theorem rel_nil (y : Str) : RelO (([] : List (Str × V)).lookup y) (([] : List (Str × Value)).lookup y) := trivial
theorem rel_cons {a : List (Str × V)} {b : List (Str × Value)} {f : Str} {v : V} {u : Value} (r : RelV v u)
    (h : ∀ y, RelO (a.lookup y) (b.lookup y)) (y : Str) : RelO (((f, v) :: a).lookup y) (((f, u) :: b).lookup y) := by
  by_cases c : y = f
  · subst c
    have e1 : ((y, v) :: a).lookup y = some v := by simp [List.lookup]
    have e2 : ((y, u) :: b).lookup y = some u := by simp [List.lookup]
    rw [e1, e2]
    exact r
  · have c' : (y == f) = false := by simpa using c
    have q := h y
    simpa [List.lookup, c'] using q
/-- the fields' relation -/
def ErRel (f : Str) (fs : List Str) : Prop := ∀ (v : V) (u : Value) (ws : List V) (us : List Value), RelV v u → Vals ws us → ws.length = fs.length →
  ∀ y, RelO (((fs.zip ws).reverse ++ [(f, v)]).lookup y) (((fs.zip us).reverse ++ [(f, u)]).lookup y)
theorem er_rel1 {f : Str} : ErRel f [] := fun v u ws us r _ _ => rel_cons r rel_nil
theorem er_rel2 {f g : Str} : ErRel f [g] := fun v u ws us r rs hl => by
  match ws, us, rs, hl with
  | [w], [x], .cons rw .nil, _ => exact rel_cons rw (rel_cons r rel_nil)
def tErr (C : Addr) (f : Str) (fs : List Str) (ta : TA) : L2.St → Hp → XK → Prop := fun σ H Q => ta σ H fun vs H1 =>
  ∃ v ws, vs = v :: ws ∧ ws.length = fs.length ∧ ∀ d, H1 d = none → Q (.ref C) (some d) (upd H1 d (.xd ((fs.zip ws).reverse ++ [(f, v)])))
section
variable {X : Cx} {nm base : Str} {B newId initId : String} {tl : List Value} {f : Str} {fs : List Str} {C D fI : Addr} {st : Stmt}
theorem pmk_err {e : Expr} {es : List Expr} {ta : TA} {p pos : Pos} {k : Nat} (T : ErrT X.K X.mg nm base B newId initId tl f fs C D fI st)
    (rel : ErRel f fs) (hr : Room (k + 1) X.A) (ha : PA X (e :: es) ta) (hg : Gl X nm) (hdb : (nm == ("__debug__" : Str)) = false := by decide)
    (he : starEach (e :: es) X.env = (false, eval e X.env) :: starEach es X.env := by rfl)
    (hpl : (backTo pos (starEach es X.env)).any (·.1) = false := by rfl) :
    PMk X (.Call (.Name nm p) (e :: es) [] pos) (tErr C f fs ta) := by
  intro pins s σ H Q I h
  refine wpAny_Call_Name_kw (ld_glob I hg T.gC ?_ hdb)
  refine callWith_K (h₀ := X.base) I.ok.mod.kin T.kC (thn (ha.run pos pins s σ H _ I h) fun us s1 hh => ?_) he hpl
  obtain ⟨vs, H1, I1, r1, v, ws, ev, hl, q1⟩ := hh
  subst ev
  refine ⟨I1.kIn, ?_⟩
  cases r1 with
  | @cons _ u0 _ ur rv rw =>
    have hlu : ur.length = fs.length := (Paired.length rw).symm.trans hl
    have hlim := I1.nolimit
    have hgl : s1.heap.Ns mainGlobals X.mg := I1.mod.glob.keeps I1.bk
    obtain ⟨u, g, dr, tk, os⟩ := s1
    refine wpAny_call (er_made T I1.kIn hgl hlim (by have := hr.dp; omega) hlu fun h' tk' a d M => ?_)
    show MkP X pins σ Q (.ref a) ⟨h', g, dr, tk', os⟩
    obtain ⟨t1, hoe⟩ := M.obj
    obtain ⟨G, g1, g2⟩ := restrict h' fun b => decide (b ≠ a)
    have ga : ∀ b, b ≠ a → G.get? b = h'.get? b := fun b hb => g1 b (decide_eq_true hb)
    have gn : G.get? a = none := g2 a (by simp)
    have old : ∀ b o, u.get? b = some o → G.get? b = some o := fun b o z =>
      (ga b (Nat.ne_of_lt (Nat.lt_of_lt_of_le (Heap.lt_size z) M.new))).trans (M.keep b o z)
    have ob : ObjOk X.prog X.w (upd H1 d (.xd ((fs.zip ws).reverse ++ [(f, v)]))) G d (.xd ((fs.zip ws).reverse ++ [(f, v)])) :=
      ⟨_, M.ns.at (fun o z => (ga d M.dne).trans z), rel v u0 ws ur rv rw hl⟩
    have J : Inv X pins σ (upd H1 d (.xd ((fs.zip ws).reverse ++ [(f, v)]))) ⟨G, g, dr, tk', os⟩ := I1.laid (t' := tk') old M.dbig ob
    refine ⟨a, _, _, ⟨G, g, dr, tk', os⟩, _, .ref C, some d, rfl, J, fun b o z => ?_, gn, hoe, ⟨rfl, rfl⟩, rfl, rfl, ?_, rfl, I1.bare,
      raises_own T.eC T.tC, q1 d (I1.hok.fresh M.dbig)⟩
    · by_cases hb : b = a
      · subst hb
        have z' : G.get? b = some o := z
        rw [gn] at z'
        cases z'
      · exact (ga b hb).symm.trans z
    · rw [upd_ne (Ne.symm M.dne)]
      exact I1.hok.fresh M.new
/-- raise C(e, ..) -/
theorem ps_err {e : Expr} {es : List Expr} {ta : TA} {W : WX} {p pos pos2 : Pos} {k : Nat} (hc : X.calm = true)
    (T : ErrT X.K X.mg nm base B newId initId tl f fs C D fI st) (rel : ErRel f fs) (hr : Room (k + 1) X.A) (tk : Takes X W)
    (ha : PA X (e :: es) ta) (hg : Gl X nm) (hdb : (nm == ("__debug__" : Str)) = false := by decide)
    (he : starEach (e :: es) X.env = (false, eval e X.env) :: starEach es X.env := by rfl)
    (hpl : (backTo pos (starEach es X.env)).any (·.1) = false := by rfl) :
    PS X (.Raise (some (.Call (.Name nm p) (e :: es) [] pos)) none pos2) (fun _ σ H => tErr C f fs ta σ H fun cls d H' => W cls d σ H') :=
  ps_raise hc tk (pmk_err T rel hr ha hg hdb he hpl)
end

/-! ### a caught error, asked -/
/-- what the written part says of a class of errors, so that its errors may be asked -/
structure ErrQ (K : Frag) (C : Addr) : Prop where
  ga : findIn K (.ref C) "__getattribute__" = some (some (.builtin "BaseException.__getattribute__"))
  gg : findIn K (.ref C) "__getattr__" = some none
  eC : subIn K (.ref C) (.type "BaseException") = some true
  hd : hasDictIn K C = true
  ic : isClsIn K C = true
  tC : typeIn K (.ref C) = some (.type "type")
  ca : findIn K (.ref C) "__class__" = some (some (.builtin "object.__class__"))
  ob : mroIn K C (.type "object") = some true
  me : subIn K (.ref C) (.ref C) = some true
/-- of the built-in `__class__` -/
structure ClsQ (K : Frag) : Prop where
  get : specialIn K (.builtin "object.__class__") "__get__" = some (some (.builtin "getset_descriptor.__get__"))
  tk : takesIn K (.builtin "object.__class__") = some true
theorem ErrQ.xf {K : Frag} {C : Addr} (q : ErrQ K C) : XfC K C := ⟨q.ga, q.gg, q.eC, q.hd⟩
theorem ErrQ.exm {K : Frag} {C C' : Addr} {b : Bool} (q : ErrQ K C') (h : subIn K (.ref C) (.ref C') = some b) : exmOne K (.ref C) (.ref C') = some b := by
  have e1 : (subIn K (.ref C') (.type "BaseException") == some true) = true := by rw [q.eC] <;> rfl
  have ic : (clsIn K C').isSome = true := q.ic
  have e2 : ((clsIn K C').isSome && typeIn K (.ref C') == some (.type "type")) = true := by rw [ic, q.tC] <;> rfl
  show (if _ then (if _ then subIn K (.ref C) (.ref C') else none) else none) = some b
  rw [if_pos e1, if_pos e2]
  exact h
theorem ErrQ.kit {K : Frag} {C C' : Addr} {b : Bool} (q : ErrQ K C') (h : subIn K (.ref C) (.ref C') = some b) : kitOne K (.ref C) (.ref C') = some b := by
  have ic : (clsIn K C').isSome = true := q.ic
  have e2 : ((clsIn K C').isSome && typeIn K (.ref C') == some (.type "type")) = true := by rw [ic, q.tC] <;> rfl
  unfold kitOne
  by_cases c : ((Value.ref C == Value.ref C') = true)
  · have e : C = C' := Value.ref.inj (beq_iff_eq.mp c)
    subst e
    rw [q.me] at h
    rw [if_pos c]
    exact h
  · rw [if_neg c]
    show (if _ then subIn K (.ref C) (.ref C') else none) = some b
    rw [if_pos e2]
    exact h
theorem kit_bt {K : Frag} {C : Addr} {T : String} {b : Bool} (hm : kitMeta T = true) (h : subIn K (.ref C) (.type T) = some b) : kitOne K (.ref C) (.type T) = some b := by
  unfold kitOne
  rw [if_neg (by simp)]
  show (if _ then subIn K (.ref C) (.type T) else none) = some b
  rw [if_pos hm]
  exact h
/-- isinstance(e, c), isinstance(e, (c, ..)), e the error that the suite holds -/
def rIsErr (K : Frag) (a : Addr) (cls : Value) (d : Option Addr) : List V → Hp → VK → Prop := fun xs H Q => ∃ (C : Addr) (c : V) (b : Bool) (dd : Addr) (fs : List (Str × V)),
  xs = [.ref a, c] ∧ cls = .ref C ∧ d = some dd ∧ H dd = some (.xd fs) ∧ ErrQ K C ∧ ClsQ K ∧
  ((∃ u, ClsV c u ∧ kitOne K (.ref C) u = some b) ∨ ∃ tp cs us, c = .ref tp ∧ H tp = some (.tup cs) ∧ Paired ClsV cs us ∧ kitAny K (.ref C) us = some b) ∧ Q (.bl b) H
section
variable {X : Cx} {a : Addr} {oe : Obj} {cls : Value} {d : Option Addr} {pn : List (Addr × Obj)}
theorem inst_err {pins : List (Addr × Obj)} {σ : L2.St} {H : Hp} {s : Shared} {C : Addr} (I : Inv (X.suite a ((a, oe) :: pn)) pins σ H s)
    (hz : Zc (.ref C) d oe) (hf : ∃ vs, oe.data = .fields vs) (dd : Addr) (ed : d = some dd) (fs : List (Str × V)) (h : H dd = some (.xd fs)) :
    ∃ od, InstAt s.heap a oe C (some od) := by
  subst ed
  obtain ⟨ha, _⟩ := I.pin (a, oe) (List.mem_append_left _ List.mem_cons_self)
  obtain ⟨vs, hv⟩ := hf
  have hx : ObjOk X.prog X.w H s.heap dd (.xd fs) := I.hok dd _ h
  obtain ⟨mA, ⟨od, _, _, ho, _⟩, _⟩ := hx
  exact ⟨od, ha, hz.1, by unfold notCls; rw [hv] <;> rfl, by rw [hz.2]; exact ho⟩
theorem call_isErr (hz : Zc cls d oe) (hf : ∃ vs, oe.data = .fields vs) : CallR (X.suite a ((a, oe) :: pn)) (.builtin "isinstance") (rIsErr X.K a cls d) := by
  intro pins s σ H xs us Q I r h
  obtain ⟨C, c, b, dd, fs, rfl, rfl, ed, eh, q, k, hc, hQ⟩ := h
  obtain ⟨od, J⟩ := inst_err I hz hf dd ed fs eh
  obtain ⟨u1, u2, rfl, r1, r2⟩ := vals2 r
  cases (show u1 = Value.ref a from r1)
  have Z := kitx_exc (K := X.K) (x := a) (ox := oe) (od := some od) (C := C) q.ic q.ga q.gg q.eC q.ca k.get k.tk q.ob
  rcases hc with ⟨u, hu, e⟩ | ⟨tp, cs, ws, rfl, hT, hp, e⟩
  · have e2 := hu.eq r2
    subst e2
    exact kia_one Z I.kIn J e (fun z => nomatch z) fun tk => ⟨.bl b, H, I.tok tk, rfl, hQ⟩
  · cases (show u2 = Value.ref tp from r2)
    obtain ⟨_, its, rv, o, h1, h2, n, h3⟩ := (show ObjOk X.prog X.w H s.heap tp (.tup cs) from I.hok tp _ hT)
    have e3 := ClsV.all hp rv
    subst e3
    obtain ⟨oc, od', dt, sl⟩ := o
    simp only at h2 h3
    subst h2 h3
    exact kia_tup Z I.kIn J h1 e (fun z => nomatch z) fun tk => ⟨.bl b, H, I.tok tk, rfl, hQ⟩
end
theorem bt_LookupError : bootBuiltins "LookupError" = some (.type "LookupError") := by decide +kernel
theorem bt_RuntimeError : bootBuiltins "RuntimeError" = some (.type "RuntimeError") := by decide +kernel
theorem bt_ArithmeticError : bootBuiltins "ArithmeticError" = some (.type "ArithmeticError") := by decide +kernel
theorem bt_ValueError : bootBuiltins "ValueError" = some (.type "ValueError") := by decide +kernel
theorem km_LookupError : kitMeta "LookupError" = true := by decide +kernel
theorem km_RuntimeError : kitMeta "RuntimeError" = true := by decide +kernel
theorem km_ArithmeticError : kitMeta "ArithmeticError" = true := by decide +kernel
theorem km_ValueError : kitMeta "ValueError" = true := by decide +kernel
theorem kita_nil {K : Frag} {t : Value} : kitAny K t [] = some false := rfl
theorem kita_no {K : Frag} {t c : Value} {cs : List Value} {b : Bool} (h : kitOne K t c = some false) (hr : kitAny K t cs = some b) : kitAny K t (c :: cs) = some b := by
  unfold kitAny
  rw [h]
  exact hr
theorem kita_yes {K : Frag} {t c : Value} {cs : List Value} (h : kitOne K t c = some true) : kitAny K t (c :: cs) = some true := by
  unfold kitAny
  rw [h]

/-! ### calls that may raise: what is wished of an exception may lean on the slots -/
/-- f(..) by values, in the slots σ -/
def CallS (X : Cx) (f : Value) (r : L2.St → List V → Hp → VK → Prop) : Prop :=
  ∀ (pins : List (Addr × Obj)) (s : Shared) (σ : L2.St) (H : Hp) (vs : List V) (us : List Value) (Q : VK),
    Inv X pins σ H s → Vals vs us → r σ vs H Q → wpAny (model X.prog X.w) X.A (call f us) (EP X pins σ Q) X.xe s
def CallKS (X : Cx) (f : Value) (ks : List Str) (r : L2.St → List V → List V → Hp → VK → Prop) : Prop :=
  ∀ (pins : List (Addr × Obj)) (s : Shared) (σ : L2.St) (H : Hp) (xs zs : List V) (us ws : List Value) (Q : VK),
    Inv X pins σ H s → Vals xs us → Vals zs ws → r σ xs zs H Q →
    wpAny (model X.prog X.w) X.A (call f us (ks.zip ws)) (EP X pins σ Q) X.xe s
def tCS (r : L2.St → List V → Hp → VK → Prop) (t : TA) : TE := fun σ H Q => t σ H fun vs H1 => r σ vs H1 Q
def tCKS (r : L2.St → List V → List V → Hp → VK → Prop) (t tk : TA) : TE := fun σ H Q => t σ H fun vs H1 => tk σ H1 fun zs H2 => r σ vs zs H2 Q
section
variable {X : Cx} {k : Nat} {f : Addr} {fd : FuncData} {ps ks : List Str} {sp : Sp} {dvs : List V} {ds : List Value} {W : WX}
theorem FnG.atS (F : FnG X.prog X.w X.K X.mg X.base k f fd ps sp) (hg : X.A.guards = some []) (hr : Room k X.A)
    (hb : Binds X.K fd ps ds) (hd : Vals dvs ds) (tk : Takes X W) :
    CallS X (.ref f) (fun σ vs H Q => sp (vs ++ dvs) H Q (fun cls d H => W cls d σ H)) := by
  intro pins s σ H vs us Q I rv h
  have r2 : Vals (vs ++ dvs) (us ++ ds) := rv.append hd
  have hl : (us ++ ds).length = ps.length := by rw [← r2.length]; exact F.len _ _ _ _ h
  refine wpAny_call (codeAny_mono (F.run X.A X.stack s H ⟨us, []⟩ (us ++ ds) (vs ++ dvs) Q _ hg hr I.env0
    (hb s us I.kIn hl) r2 h) fun r s' hq => ?_)
  match r, hq with
  | .error e, hq => exact tk e s' (XE.of_call I (fun _ _ _ h => h) hq)
  | .ok (.ret u), hq => exact I.after hq
  | .ok .next, hq => exact hq.elim
  | .ok .brk, hq => exact hq.elim
  | .ok .cont, hq => exact hq.elim
theorem FnG.atKS {g : List Value → List Value → List Value} {gV : List V → List V → List V}
    (F : FnG X.prog X.w X.K X.mg X.base k f fd ps sp) (hg : X.A.guards = some []) (hr : Room k X.A)
    (hb : KBinds X.K fd ps ks g gV) (tk : Takes X W) :
    CallKS X (.ref f) ks (fun σ vs zs H Q => sp (gV vs zs) H Q (fun cls d H => W cls d σ H)) := by
  intro pins s σ H vs zs us ws Q I rv rz h
  have r2 := hb.rel rv rz
  have hl : (g us ws).length = ps.length := by rw [← r2.length]; exact F.len _ _ _ _ h
  refine wpAny_call (codeAny_mono (F.run X.A X.stack s H ⟨us, ks.zip ws⟩ (g us ws) (gV vs zs) Q _ hg hr I.env0
    (hb.to s us ws I.kIn hl) r2 h) fun r s' hq => ?_)
  match r, hq with
  | .error e, hq => exact tk e s' (XE.of_call I (fun _ _ _ h => h) hq)
  | .ok (.ret u), hq => exact I.after hq
  | .ok .next, hq => exact hq.elim
  | .ok .brk, hq => exact hq.elim
  | .ok .cont, hq => exact hq.elim
variable {x : Str} {p pos : Pos} {e : Expr} {es : List Expr} {kws : List Keyword} {t tk : TA}
    {r : L2.St → List V → Hp → VK → Prop} {rk : L2.St → List V → List V → Hp → VK → Prop}
theorem pe_fnS (c : CallS X (.ref f) r) (hg : Gl X x) (hm : X.mg x = some (.ref f)) (hk : keepIn X.K (.ref f) = true)
    (ha : PA X (e :: es) t) (hdb : (x == ("__debug__" : Str)) = false := by decide)
    (he : starEach (e :: es) X.env = (false, eval e X.env) :: starEach es X.env := by rfl)
    (hpl : (backTo pos (starEach es X.env)).any (·.1) = false := by rfl) : PE X (.Call (.Name x p) (e :: es) [] pos) (tCS r t) := by
  refine ⟨fun pins s σ H Q I h => wpAny_Call_Name_kw (ld_glob I hg hm ?_ hdb)⟩
  refine callWith_K (h₀ := X.base) I.ok.mod.kin hk (thn (ha.run pos pins s σ H _ I h) fun us s1 hh => ?_) he hpl
  obtain ⟨vs, H1, I1, rv, q⟩ := hh
  exact ⟨I1.kIn, c pins s1 σ H1 vs us Q I1 rv q⟩
theorem pe_fnKS (c : CallKS X (.ref f) ks rk) (hg : Gl X x) (hm : X.mg x = some (.ref f)) (hk : keepIn X.K (.ref f) = true)
    (ha : PA X (e :: es) t) (hkw : PK X kws tk) (hall : (backToKw pos (keywordEach kws X.env)).all (·.1.isSome) = true := by rfl)
    (hks : (backToKw pos (keywordEach kws X.env)).filterMap (·.1) = ks := by rfl) (hdb : (x == ("__debug__" : Str)) = false := by decide)
    (he : starEach (e :: es) X.env = (false, eval e X.env) :: starEach es X.env := by rfl)
    (hpl : ((backTo pos (starEach (e :: es) X.env)).any (·.1) || (backToKw pos (keywordEach kws X.env)).any (·.1.isNone)) = false := by rfl) :
    PE X (.Call (.Name x p) (e :: es) kws pos) (tCKS rk t tk) := by
  refine ⟨fun pins s σ H Q I h => wpAny_Call_Name_kw (ld_glob I hg hm ?_ hdb)⟩
  refine callWith_KW (h₀ := X.base) I.ok.mod.kin hk hall (thn (ha.run pos pins s σ H _ I h) fun us s1 hh => ?_) hpl he
  obtain ⟨vs, H1, I1, rv, q⟩ := hh
  refine thn (hkw.run pos pins s1 σ H1 _ I1 q) fun ws s2 hh2 => ?_
  obtain ⟨zs, H2, I2, rz, q2⟩ := hh2
  refine ⟨I2.kIn, ?_⟩
  rw [hks]
  exact c pins s2 σ H2 vs zs us ws Q I2 rv rz q2
theorem pe_fnKS0 (c : CallKS X (.ref f) ks rk) (hg : Gl X x) (hm : X.mg x = some (.ref f)) (hk : keepIn X.K (.ref f) = true)
    (hkw : PK X kws tk) (hall : (backToKw pos (keywordEach kws X.env)).all (·.1.isSome) = true := by rfl)
    (hks : (backToKw pos (keywordEach kws X.env)).filterMap (·.1) = ks := by rfl) (hdb : (x == ("__debug__" : Str)) = false := by decide)
    (hpl : ((backTo pos (starEach [] X.env)).any (·.1) || (backToKw pos (keywordEach kws X.env)).any (·.1.isNone)) = false := by rfl) :
    PE X (.Call (.Name x p) [] kws pos) (tCKS rk tNil tk) := by
  refine ⟨fun pins s σ H Q I h => wpAny_Call_Name_kw (ld_glob I hg hm ?_ hdb)⟩
  refine callWith_KW0 (h₀ := X.base) I.ok.mod.kin hk hall (thn (hkw.run pos pins s σ H _ I h) fun ws s2 hh2 => ?_) hpl
  obtain ⟨zs, H2, I2, rz, q2⟩ := hh2
  refine ⟨I2.kIn, ?_⟩
  rw [hks]
  exact c pins s2 σ H2 [] zs [] ws Q I2 .nil rz q2
end
section
variable {σ : L2.St} {H : Hp} {Q : VK} {tr tk : TA}
theorem s_cs {r : L2.St → List V → Hp → VK → Prop} (q : tr σ H fun vs H1 => r σ vs H1 Q) : tCS r tr σ H Q := q
theorem s_cks {r : L2.St → List V → List V → Hp → VK → Prop} (q : tr σ H fun vs H1 => tk σ H1 fun zs H2 => r σ vs zs H2 Q) : tCKS r tr tk σ H Q := q
end

/-! ### keyword-only defaults -/
def kwgD {α : Type} (a b : Nat) (perm : List Nat) (mv us ws : List α) : List α := if us.length = a ∧ ws.length = b then pick perm (us ++ ws ++ mv) else []
theorem kb_ofD {K : Frag} {x qual : Str} {pr : Arguments} {bd : List Stmt} {sc : Scope} {kws : List (Str × V)} {f : Addr} {fd : FuncData} {ps : List Str}
    (F : FunD K x qual pr bd sc [] kws f fd) (a : Nat) (ks : List Str) (ms : List (Str × V)) (perm : List Nat) (h0 : ps ≠ []) (hk : kws ≠ []) (hms : ∀ q ∈ ms, q ∈ kws)
    (h : ∀ (D : Addr) (doc pm : Value) (an : Option Addr) (cdv ct : Value) (us mv ws : List Value), us.length = a → mv.length = ms.length → ws.length = ks.length →
      KwChain D ((ms.map (·.1)).zip mv) (bindArgs (fnOf x qual pr bd sc .none (.ref D) doc pm an cdv ct) ⟨us, ks.zip ws⟩) (ps.zip (pick perm (us ++ ws ++ mv)))) :
    ∃ mv : List Value, KBinds K fd ps ks (kwgD a ks.length perm mv) (kwgD a ks.length perm (ms.map (·.2))) := by
  obtain ⟨mv, B⟩ := FunD.kbinds0 (ps := ps) F a ks ms (fun us mv ws => pick perm (us ++ ws ++ mv)) hk hms (fun r1 r2 r3 => pick_vals ((r1.append r3).append r2) perm) h
  refine ⟨mv, fun s us ws X hl => ?_, fun {vs us zs ws} r z => ?_⟩
  · by_cases c : us.length = a ∧ ws.length = ks.length
    · unfold kwgD
      rw [if_pos c]
      exact B.to s us ws X c.1 c.2
    · unfold kwgD at hl
      rw [if_neg c] at hl
      exact absurd (List.length_eq_zero_iff.mp hl.symm) h0
  · unfold kwgD
    by_cases c : us.length = a ∧ ws.length = ks.length
    · rw [if_pos c, if_pos ⟨by rw [r.length]; exact c.1, by rw [z.length]; exact c.2⟩]
      exact B.rel r z
    · rw [if_neg c, if_neg (fun q => c ⟨by rw [← r.length]; exact q.1, by rw [← z.length]; exact q.2⟩)]
      exact .nil
theorem funD_of {K : Frag} {x qual : Str} {st : Stmt} {f D : Addr} {oc : Value} {od an : Option Addr} {osl : Array (Option Value)} {doc pm cdv ct : Value} {kws : List (Str × V)}
    (l : K.lookup f = some ⟨oc, od, .func (fnOf x qual (defArgs st) (defBody st) (defScope st) .none (.ref D) doc pm an cdv ct), osl⟩)
    (c : codeIn K cdv qual = true) (k : keepIn K (.ref f) = true) (hk : ∀ q ∈ kws, ∃ u, nsIn K D q.1 = some (some u) ∧ RelV q.2 u) :
    FunD K x qual (defArgs st) (defBody st) (defScope st) [] kws f (fnOf x qual (defArgs st) (defBody st) (defScope st) .none (.ref D) doc pm an cdv ct) :=
  ⟨⟨oc, od, .none, .ref D, doc, pm, an, cdv, ct, osl, rfl, l, c, .inl ⟨rfl, rfl⟩, .inr ⟨D, rfl, hk⟩⟩, k⟩
end PC

set_option Elab.async false
set_option linter.all false
set_option maxRecDepth 100000
set_option maxHeartbeats 2000000
/-! PcF: sorted, enumerate, zip of lists and of tuples alike; lists that are changed in place. -/
namespace PC
open PySem PySem.Spec PyProof.Rows L2

/-! ### sorted(x), x a list or a tuple of ints -/
section
variable {prog : Program} {w : World} {A : Around} {E : Value → Shared → Prop} {s : Shared}
theorem collect_tup {l : Addr} {vs : List Value} {Q : List Value → Shared → Prop} (ht : s.heap.IsTuple l vs.toArray) (few : vs.length ≤ sizeLine)
    (q : Q vs { s with heap := (s.heap.push (seqObj "list" #[] 0)).update s.heap.objs.size (Obj.mapSeq (· ++ vs.toArray)) }) :
    wpAny (model prog w) A (collect (.ref l)) Q E s := by
  obtain ⟨o, ho, hc, n, hd⟩ := id ht
  unfold collect
  refine wpAny_bind (wpAny_runValue (codeAny_builtin entry_proto_collect' ?_))
  show wpAny _ _ (do again (.builtin "list.__iadd__" ⟨[← newList [], .ref l], []⟩)) _ _ s
  refine wpAny_bind (wpAny_newList
    (wpAny_pure ⟨Code.quiet_builtin _ (by decide +kernel), codeAny_builtin entry_list_iadd' ?_⟩))
  show wpAny _ _ (Builtin.List.listExtendWith _ _ _) _ _ { s with heap := s.heap.push (seqObj "list" #[] 0) }
  unfold Builtin.List.listExtendWith
  have ho2 : (s.heap.push (seqObj "list" #[] 0)).get? l = some o := Heap.get?_push_of_some _ ho
  refine wpAny_bind (wpAny_typeOf (T := "tuple") ⟨o, ho2, hc⟩ ?_)
  have yes : (Value.type "tuple" == Value.type "tuple") = true := by rfl
  rw [if_pos (by rw [yes]; simp)]
  refine wpAny_bind (listItems_at ho2 hd ?_)
  refine wpAny_bind (listItems_at (n := 0) (xs := #[]) (Heap.get?_push_size _ rfl) rfl ?_)
  rw [if_neg (by simp)]
  have few2 : ((#[] : Array Value) ++ vs.toArray).size ≤ sizeLine + 1 := by
    simp only [Array.size_append, List.size_toArray, List.length_nil]
    omega
  refine wpAny_bind (listUpdate_at (n := 0) (xs := #[]) (Heap.get?_push_size _ rfl) rfl ?_ (Nat.zero_le _) few2)
  refine wpAny_pure ?_
  refine wpAny_bind (wpAny_load (get?_update_seq (Heap.get?_push_size _ rfl) _) ?_)
  show wpAny _ _ (pure ((#[] : Array Value) ++ vs.toArray).toList) Q E _
  rw [show ((#[] : Array Value) ++ vs.toArray).toList = vs by simp]
  exact wpAny_pure q
theorem sorted_tup {l : Addr} {vs : List Value} {ltv : Value → Value → Bool} {Q : Value → Shared → Prop} (O : SrtO.Swo ltv)
    (ht : s.heap.IsTuple l vs.toArray) (few : vs.length ≤ sizeLine)
    (hS : 2 ≤ vs.length → ∀ (u : Heap) (a : Addr), SrtO.SortableO prog w A.in1.in1 { s with heap := u } a vs ltv)
    (q : ∀ out : List Value, SrtO.Srtd ltv out → SrtO.Stb ltv out vs →
      Q (.ref (s.heap.objs.size + 1)) { s with heap := sortedAll s.heap vs out.toArray }) :
    wpAny (model prog w) A (call (.builtin "sorted") [.ref l]) Q E s := by
  refine Calls.call_function_entry kind_sorted plain_sorted entry_sorted (args_sorted1 _) ?_
  unfold Builtin.«sorted»
  refine wpAny_bind (m := checkCount "sorted" 1 1 _) (wpAny_pure ?_)
  refine wpAny_bind (collect_tup ht few (wpAny_bind (wpAny_newList ?_ few)))
  have one : ((s.heap.push (seqObj "list" #[] 0)).update s.heap.objs.size (Obj.mapSeq (· ++ vs.toArray))).objs.size = s.heap.objs.size + 1 := by
    rw [Heap.size_update]
    exact Heap.size_push ..
  have new : (((s.heap.push (seqObj "list" #[] 0)).update s.heap.objs.size (Obj.mapSeq (· ++ vs.toArray))).push
      (seqObj "list" vs.toArray 0)).get? (s.heap.objs.size + 1) = some (seqObj "list" vs.toArray 0) := by
    rw [← one]
    exact Heap.get?_push_size _ rfl
  show wpAny _ _ _ _ _ { s with heap := ((s.heap.push (seqObj "list" #[] 0)).update s.heap.objs.size
    (Obj.mapSeq (· ++ vs.toArray))).push (seqObj "list" vs.toArray 0) }
  rw [one]
  refine wpAny_bind (wpAny_holding (wpAny_call_entry slot_list_sort ⟨_, new, rfl⟩ entry_list_sort
    (SrtO.list_sort_ord O new few (fun h2 => hS h2 _ _) fun out hs hb => ⟨_, rfl, wpAny_pure ⟨_, rfl, q out hs hb⟩⟩) (args_list_sort _)))
end
/-- sorted(x): the ints in ascending order -/
def rSorted (K : PySem.W.Frag) : List V → Hp → VK → Prop := fun vs H Q => ∃ (a : Addr) (ns : List Int), vs = [V.ref a] ∧
  (SqL K H a (ns.map V.int) ∨ SqT K H a (ns.map V.int)) ∧
  ∀ (ms : List Int) (p : Addr), ms.Perm ns → ms.Pairwise (· ≤ ·) → H p = none → Q (.ref p) (upd H p (.lst (ms.map V.int)))
section
variable {X : Cx} {K : PySem.W.Frag}
theorem cr_sortedT {pins : List (Addr × Obj)} {σ : L2.St} {H : Hp} {s : Shared} {a : Addr} {ns : List Int} {Q : VK} (I : Inv X pins σ H s)
    (hs : SqT X.K H a (ns.map V.int))
    (q : ∀ (ms : List Int) (p : Addr), ms.Perm ns → ms.Pairwise (· ≤ ·) → H p = none → Q (.ref p) (upd H p (.lst (ms.map V.int)))) :
    wpAny (model X.prog X.w) X.A (call (.builtin "sorted") [.ref a]) (EP X pins σ Q) X.xe s := by
  obtain ⟨its, rv, hl, hz⟩ := I.tuple hs
  have hi := rv.ints
  refine sorted_tup SrtO.swo_int (show s.heap.IsTuple a its.toArray from hl) (by rw [← rv.length]; exact hz)
    (fun h2 u b => SrtO.ints_sortable hi h2) fun out h1 h2 => ?_
  obtain ⟨k1, k2, k3⟩ := SrtO.ints_out hi h1 h2
  obtain ⟨ep, e⟩ := sortedAll_at s.heap its out.toArray
  have few : ((out.map SrtO.iv).map V.int).length ≤ sizeLine := by
    rw [List.length_map, k2.length_eq]
    simpa using hz
  have big : s.heap.objs.size ≤ s.heap.objs.size + 1 := Nat.le_succ _
  exact ⟨.ref _, upd H (s.heap.objs.size + 1) (.lst ((out.map SrtO.iv).map V.int)),
    I.laid (t' := s.toks) (fun _ _ => sortedAll_old) big ⟨few, out, ep, vals_of_ints k1, e⟩, rfl, q _ _ k2 k3 (I.hok.fresh big)⟩
theorem call_sortedA : CallR X (.builtin "sorted") (rSorted X.K) := by
  intro pins s σ H vs us Q I r h
  obtain ⟨a, ns, rfl, hs | hs, q⟩ := h
  · exact cr_sortedI pins s σ H _ us Q I r ⟨a, ns, rfl, hs, q⟩
  · rw [Vals.ref1 r]
    exact cr_sortedT I hs q
theorem kx_sorted (h : X.K = K) : CallR X (.builtin "sorted") (rSorted K) := by subst h; exact call_sortedA
end

/-! ### enumerate(x), x a tuple -/
theorem Draws.tup {prog : Program} {w : World} {A : Around} (hh : A.handled = none) (it l : Addr) (hne : l ≠ it) (xs : Array Value) :
    Draws prog w A it [it, l] xs.size (fun i v => xs[i]? = some v) (fun i h => h.IsTupleIter it l i ∧ h.IsTuple l xs) where
  live := fun _ _ st => let ⟨o, ho, _⟩ := st.1; ⟨o, ho⟩
  frame := fun _ _ _ st hk => ⟨st.1.at fun o e => hk it (by simp) o e, let ⟨o, e, q⟩ := st.2; ⟨o, hk l (by simp) o e, q⟩⟩
  item := fun i s Q E hi st hQ => by
    refine RZ.nextOf_tuple_item st.1 st.2 (x := xs[i]) (by simp [hi]) fun h' hit hs => ?_
    obtain ⟨o, e, q⟩ := st.2
    exact hQ _ h' s.toks (by simp [hi]) ⟨hit, o, (hs.2 l hne).trans e, q⟩ hs
  done := fun s Q E st hE => RZ.nextOf_tuple_end hh st.1 st.2 (by simp) hE
abbrev enumO (i : Addr) : Obj := { cls := .type "enumerate", data := .fields #[.none, .bool false, .ref i, rawInt 0, .none, .none] }
section
open AutoSeq1 (wpAny_loadPart')
theorem meets_enum_tup (l : Addr) (xs : Array Value) (n : Nat) (dct : Option Addr) (sl : Array (Option Value)) :
    Meets (Builtin.«enumerate.__new__» ⟨[.type "enumerate", .ref l], []⟩) (fun _ R s =>
      s.heap.get? l = some { cls := .type "tuple", dict := dct, data := .seq xs n, slots := sl } ∧
      R (.ok (.ret (.ref (s.heap.push { cls := .type "tuple_iterator", data := .fields #[.ref l, .int 0 0] }).objs.size)))
        { s with heap := (s.heap.push { cls := .type "tuple_iterator", data := .fields #[.ref l, .int 0 0] }).push (enumO s.heap.objs.size) }) :=
  .of_wp fun prog w A R s h => by
    obtain ⟨u, g, d, tk, os⟩ := s
    obtain ⟨hl, h⟩ := h
    have hsub := sub_enumerate
    have hL : Heap.IsTuple (Shared.heap ⟨u, g, d, tk, os⟩) l xs := ⟨_, hl, rfl, n, rfl⟩
    wp_walk using wpAny_loadPart' hl
    refine wpAny_stack_any fun st => wpAny_pure ?_
    split
    · rename_i c _ _ _ _ _
      cases (c == Value.type "enumerate") <;>
        (wp_walk using wpAny_loadPart' hl, wpAny_pyIter_tuple hL; exact ⟨_, rfl, h⟩)
    · (wp_walk using wpAny_loadPart' hl, wpAny_pyIter_tuple hL); exact ⟨_, rfl, h⟩
end
section
variable {prog : Program} {w : World} {A : Around} {E : Value → Shared → Prop} {s : Shared}
theorem call_enum_tup {l : Addr} {xs : Array Value} {Q : Value → Shared → Prop} (ht : s.heap.IsTuple l xs)
    (h : ∀ h', IsEnum h' (s.heap.objs.size + 1) s.heap.objs.size 0 .none → h'.IsTupleIter s.heap.objs.size l 0 →
      (∀ b o, s.heap.get? b = some o → h'.get? b = some o) → Q (.ref (s.heap.objs.size + 1)) { s with heap := h' }) :
    wpAny (model prog w) A (call (.type "enumerate") [.ref l]) Q E s := by
  obtain ⟨⟨c, dct, dt, sl⟩, hl, hc, n, hd⟩ := ht
  replace hc : c = .type "tuple" := hc
  replace hd : dt = .seq xs n := hd
  subst hc hd
  refine callType_new F.called_enumerate (by decide) (F.typeCall_enumerate_1 _) (F.newCall_enumerate_1 _)
    (fun obj => F.args_object_init_2 obj _) F.entry_enumerate_new (meets_enum_tup l xs n dct sl) ⟨hl, ?_⟩
  have one : (s.heap.push { cls := .type "tuple_iterator", data := .fields #[.ref l, .int 0 0] }).objs.size = s.heap.objs.size + 1 := Heap.size_push ..
  show _ ∧ _
  rw [one]
  have he : IsEnum ((s.heap.push { cls := .type "tuple_iterator", data := .fields #[.ref l, .int 0 0] }).push (enumO s.heap.objs.size))
      (s.heap.objs.size + 1) s.heap.objs.size 0 .none := by
    have q := Heap.get?_push_size (s.heap.push { cls := .type "tuple_iterator", data := .fields #[.ref l, .int 0 0] })
      (o := enumO s.heap.objs.size) rfl
    rw [one] at q
    exact q
  exact ⟨⟨_, he, rfl⟩, h _ he ⟨_, Heap.get?_push_of_some _ (Heap.get?_push_size _ rfl), rfl, rfl⟩
    fun b o x => Heap.get?_push_of_some _ (Heap.get?_push_of_some _ x)⟩
end
section
variable {prog : Program} {w : World} {A : Around} {E : Value → Shared → Prop} {s : Shared}
theorem enum_tup_end {e it l : Addr} {xs : Array Value} {i : Nat} {k : Int} {old : Value} {Q : Option Value → Shared → Prop} (hh : A.handled = none)
    (he : IsEnum s.heap e it k old) (hit : s.heap.IsTupleIter it l i) (hl : s.heap.IsTuple l xs) (hx : xs[i]? = none)
    (q : ∀ h', Heap.ExtBut it s.heap h' → Q none { s with heap := h' }) : wpAny (model prog w) A (pyNext (.ref e)) Q E s := by
  have ty : s.TypeIs (.ref e) "enumerate" := ⟨_, he, rfl⟩
  unfold pyNext
  refine wpAny_bind (wpAny_attempt (wpAny_callSpecial?_slot (name := Str.ofString "__next__") ty F.slot_enumerate_next
    (wpAny_call_entry F.slot_enumerate_next ty F.entry_enumerate_next ?_ (F.args_enumerate_next_1 _))))
  show wpAny (model prog w) _ (field (.ref e) 2 >>= _) _ _ s
  refine wpAny_bind (wpAny_field he rfl (x := .ref it) rfl ?_)
  refine wpAny_bind (RZ.nextOf_tuple_end hh hit hl hx fun h' x hb hx => ?_)
  obtain ⟨o, ho, hc⟩ := hx
  refine wpAny_bind (wpAny_isInstance (T := "StopIteration") (b := true) ⟨o, ho, hc⟩ isSubtype_stop ?_)
  exact wpAny_pure (q _ hb)
end
/-- the tuple at a, each item in a new pair -/
def IteT (K : PySem.W.Frag) (a : Addr) : It :=
  ⟨fun i H => ∃ (xs : List V) (x : V), SqT K H a xs ∧ xs[i]? = some x,
   fun i H v H' => ∃ T x, v = .ref T ∧ H T = none ∧ H' = upd H T (.tup [.int (i : Nat), x]) ∧ ∀ xs, SqT K H a xs → xs[i]? = some x,
   fun i H => ∃ xs : List V, SqT K H a xs ∧ xs.length ≤ i⟩
theorem turn_enumT {P : Program} {w : World} {K : PySem.W.Frag} {elts : List Expr} {kk : Nat} {tpos : Pos} (a e it : Addr) (hai : a ≠ it) (hae : e ≠ a) :
    Turn P w K (.Tuple elts kk tpos) (IteT K a) [e, it] e
      (fun i h => (∃ old, IsEnum h e it ((i : Nat) : Int) old) ∧ h.IsTupleIter it a i ∧ e ≠ it) where
  mem := by simp
  obj := fun i h st b hb => by
    obtain ⟨⟨old, he⟩, ⟨o, ho, hc, hd⟩, _⟩ := st
    rcases (show b = e ∨ b = it by simpa using hb) with z | z
    · subst z
      exact ⟨_, he, fun v q => nomatch q⟩
    · subst z
      exact ⟨o, ho, fun v q => by rw [hd] at q; cases q⟩
  keep := fun i h h' st k =>
    let ⟨⟨old, he⟩, hi, hne⟩ := st
    ⟨⟨old, k e (by simp) _ he⟩, hi.at fun o q => k it (by simp) o q, hne⟩
  item := by
    intro X hP hw hK hc i pins s σ H E I hf st hg
    subst hP hw hK
    obtain ⟨⟨old, he⟩, hit, hne⟩ := st
    obtain ⟨xs, x, hq, hx⟩ := hg
    obtain ⟨its, rv, p, hz⟩ := I.tuple hq
    obtain ⟨u, hu, ru⟩ := rv.get hx
    have le : e < s.heap.objs.size := Heap.lt_size he
    have li : it < s.heap.objs.size := by
      obtain ⟨_, q, _⟩ := hit
      exact Heap.lt_size q
    have lt : i < its.toArray.size := by
      have q := (List.getElem?_eq_some_iff.mp hu).1
      simpa using q
    refine wpAny_pyNext_enum_itemD (Draws.tup (A := X.A.in1) (I.ok.hd hc) it a hai its.toArray) he ⟨hit, p⟩ lt hne (by simp [hne, hae])
      fun y h' tk hy ho st' hT hsz hk => ?_
    obtain rfl : y = u := by
      have q : its.toArray[i]? = some y := hy
      have q2 : its.toArray[i]? = some u := by simpa using hu
      exact Option.some.inj (q.symm.trans q2)
    refine ⟨_, rfl, wpAny_letOwnedTupleGo_enum (s := { s with heap := h', toks := tk + 1 }) ho fun h'' he' sb => ?_⟩
    have hT2 : h''.get? s.heap.objs.size = some { cls := .type "tuple", data := .seq #[.int i tk, y] } :=
      (sb.2 _ (Nat.ne_of_gt le)).trans hT
    have new : ObjOk X.prog X.w (upd H s.heap.objs.size (.tup [.int (i : Nat), x])) h'' s.heap.objs.size (.tup [.int (i : Nat), x]) :=
      ⟨by show 2 ≤ sizeLine; decide, [.int i tk, y], .cons ⟨_, rfl⟩ (.cons ru .nil), ⟨_, hT2, rfl, _, rfl⟩⟩
    have I1 : Inv X pins σ (upd H s.heap.objs.size (.tup [.int (i : Nat), x])) { s with heap := h'', toks := tk + 1 } :=
      I.turnedNew (ch := [e, it]) (fun b ob hb q => (sb.2 b (fun z => hb (by simp [z]))).trans
        (hk b ob (fun z => hb (by simp [z])) (fun z => hb (by simp [z])) q)) hf (Nat.le_refl _) new
    refine ⟨.ref s.heap.objs.size, _, I1, rfl, ⟨_, x, rfl, I.hok.fresh (Nat.le_refl _), rfl, fun ys hy => ?_⟩,
      ⟨⟨y, ?_⟩, st'.1.at fun o q => (sb.2 it (Ne.symm hne)).trans q, hne⟩, fun b hb => ?_⟩
    · rw [I.tuple_inj hy hq]
      exact hx
    · have e1 : ((i + 1 : Nat) : Int) = (i : Int) + 1 := by omega
      rw [e1]
      exact he'
    · have lb : b < s.heap.objs.size := by
        rcases (show b = e ∨ b = it by simpa using hb) with z | z
        · rw [z]; exact le
        · rw [z]; exact li
      rw [upd_ne (Nat.ne_of_lt lb)]
      exact (hf b hb).1
  done := by
    intro X hP hw hK hc i pins s σ H E I hf st hg
    subst hP hw hK
    obtain ⟨⟨old, he⟩, hit, hne⟩ := st
    obtain ⟨xs, hq, hx⟩ := hg
    obtain ⟨its, rv, p, hz⟩ := I.tuple hq
    obtain ⟨f0, f1, f2, f3, f4, f5⟩ := hf it (by simp)
    have hl := rv.length
    exact enum_tup_end (I.ok.hd hc) he hit p (by simp; omega) fun h' eb => ⟨rfl, I.turned (t' := s.toks) (fun b o hb q => eb b o hb q) f0 f1 f3 f4 f5⟩
  self := fun A i s Q E st h => let ⟨⟨_, he⟩, _⟩ := st; wpAny_pyIter_enum he h

/-- enumerate(x), x a list or a tuple -/
def iEnumA (K : PySem.W.Frag) (ta : TA) : TI := fun σ H R => ta σ H fun vs H1 => ∃ a xs, vs = [.ref a] ∧ ((SqL K H1 a xs ∧ R (Ite K a) H1) ∨ (SqT K H1 a xs ∧ R (IteT K a) H1))
theorem pi_enumA {X : Cx} {K : PySem.W.Frag} (hK : X.K = K) {e : Expr} {ta : TA} {p pos tpos : Pos} {elts : List Expr} {kk : Nat} (hg : Gl X "enumerate") (hm : X.mg "enumerate" = none)
    (ha : PA X [e] ta) (hs : starEach [e] X.env = [(false, eval e X.env)] := by rfl) :
    PI X (.Tuple elts kk tpos) (.Call (.Name "enumerate" p) [e] [] pos) (iEnumA K ta) := by
  subst hK
  refine ⟨fun pins s σ H R I h => ?_⟩
  refine Call_ (ld_blt I hg hm boot_enumerate (callWith_type1 (thn (ha.run pos pins s σ H _ I h) fun us s1 hh => ?_) hs rfl))
  obtain ⟨vs, H1, I1, r1, a, xs, ex, hq⟩ := hh
  subst ex
  cases r1 with
  | cons r rr =>
    cases rr
    cases r
    have fp : ∀ b ∈ [s1.heap.objs.size + 1, s1.heap.objs.size], FpOk X pins H1 b := fun b hb => by
      have le : s1.heap.objs.size ≤ b := by
        rcases (show b = s1.heap.objs.size + 1 ∨ b = s1.heap.objs.size by simpa using hb) with z | z
        · rw [z]; exact Nat.le_succ _
        · rw [z]; exact Nat.le_refl _
      exact I1.fpOk le (I1.hok.fresh le)
    rcases hq with ⟨hq, q⟩ | ⟨hq, q⟩
    · obtain ⟨its, rv, p', hz⟩ := I1.list hq
      refine call_enumerate_list p'.isList fun h' he hit hsz hk => wpAny_pyIter_enum he ?_
      exact ⟨s1.heap.objs.size + 1, [s1.heap.objs.size + 1, s1.heap.objs.size], _, _, H1, rfl, I1.kept (t' := s1.toks) hk,
        turn_enum a (s1.heap.objs.size + 1) s1.heap.objs.size, ⟨⟨.none, he⟩, hit, Nat.succ_ne_self _⟩, fp, q⟩
    · obtain ⟨its, rv, p', hz⟩ := I1.tuple hq
      obtain ⟨o, ho, _⟩ := id p'
      have la : a < s1.heap.objs.size := Heap.lt_size ho
      refine call_enum_tup (show s1.heap.IsTuple a its.toArray from p') fun h' he hit hk => wpAny_pyIter_enum he ?_
      exact ⟨s1.heap.objs.size + 1, [s1.heap.objs.size + 1, s1.heap.objs.size], _, _, H1, rfl, I1.kept (t' := s1.toks) hk,
        turn_enumT a (s1.heap.objs.size + 1) s1.heap.objs.size (Nat.ne_of_lt la) (Nat.ne_of_gt (Nat.lt_succ_of_lt la)), ⟨⟨.none, he⟩, hit, Nat.succ_ne_self _⟩, fp, q⟩
section
variable {K : PySem.W.Frag} {a b : Addr} {xs ys : List V}
theorem walk_enumT : Walk (IteT K a) xs.length (fun H => SqT K H a xs) (YPair (fun i => some (.int (i : Nat))) (fun i => xs[i]?)) := by
  refine ⟨fun i _ hi q => ⟨xs, xs[i], q, by simp [hi]⟩, fun _ q => ⟨xs, q, Nat.le_refl _⟩, fun i H v H' _ q y => ?_⟩
  obtain ⟨T, x, h1, h2, h3, h4⟩ := y
  exact ⟨T, .int (i : Nat), x, h1, h2, h3, rfl, h4 xs q⟩
end
/-! ### one walk or the other -/
def iOr (w1 w2 : TI) : TI := fun σ H R => w1 σ H R ∨ w2 σ H R
theorem PI.or {X : Cx} {tg e : Expr} {w1 w2 : TI} (h1 : PI X tg e w1) (h2 : PI X tg e w2) : PI X tg e (iOr w1 w2) :=
  ⟨fun pins s σ H R I h => h.elim (h1.run pins s σ H R I) (h2.run pins s σ H R I)⟩
theorem pi_seq {X : Cx} {K : PySem.W.Frag} {tg e : Expr} {te : TE} (hK : X.K = K) (he : PE X e te) : PI X tg e (iOr (iList K te) (iTup K te)) := by
  subst hK
  exact PI.or (pi_list he) (pi_tup he)
theorem pi_listK {X : Cx} {K : PySem.W.Frag} {tg e : Expr} {te : TE} (hK : X.K = K) (he : PE X e te) : PI X tg e (iList K te) := by subst hK; exact pi_list he
theorem pi_tupK {X : Cx} {K : PySem.W.Frag} {tg e : Expr} {te : TE} (hK : X.K = K) (he : PE X e te) : PI X tg e (iTup K te) := by subst hK; exact pi_tup he
theorem pi_zipK {X : Cx} {K : PySem.W.Frag} {e e2 : Expr} {ta : TA} {p pos tpos : Pos} {elts : List Expr} {kk : Nat} (hK : X.K = K) (hg : Gl X "zip") (hm : X.mg "zip" = none) (ha : PA X [e, e2] ta)
    (hs : starEach [e, e2] X.env = (false, eval e X.env) :: starEach [e2] X.env := by rfl) (hpl : (backTo pos (starEach [e2] X.env)).any (·.1) = false := by rfl) :
    PI X (.Tuple elts kk tpos) (.Call (.Name "zip" p) [e, e2] [] pos) (RZ.iZipA K ta) := by
  subst hK
  exact RZ.pi_zipA hg hm ha hs hpl
theorem pg_tupK {X : Cx} {K : PySem.W.Frag} {pos : Pos} {es : List Expr} {k : Nat} {t : TGs} {n : Nat} (hK : X.K = K) (hc : X.calm = true) (h : PGs X es t)
    (hn : (assignEach es X.env).length = n := by rfl) (hst : (assignEach es X.env).findIdx? (·.1) = none := by rfl) : PG X (.Tuple es k pos) (gTup K n t) := by
  subst hK
  exact pg_tup hc h hn hst
end PC

set_option Elab.async false
set_option linter.all false
set_option maxRecDepth 100000
set_option maxHeartbeats 2000000
/-! PcG: steps of the readings of PcE and PcF. -/
namespace PC
open PySem PySem.Spec PyProof.Rows L2

section
variable {X : Cx} {K : PySem.W.Frag} {o e : Expr} {es : List Expr} {to : TE} {t : TA} {name : Str} {apos cpos : Pos} {T id : String} {r : V → List V → Hp → VK → Prop}
theorem pe_bmK (hK : X.K = K) (pa : PlainAttrs T) (slot : Slot T name id) (hty : typeOf (.builtin id) = pure (.type "method_descriptor")) (hm : MtR X id r)
    (ho : PE X o to) (ha : PA X (e :: es) t) (hbase : attributeBase o name X.env (eval o X.env) = eval o X.env := by rfl)
    (hfew : ((backTo cpos (starEach (e :: es) X.env)).all (fun x => !x.1) && (backToKw cpos (keywordEach [] X.env)).all (fun x => x.1.isSome) &&
      decide ((e :: es).length + ([] : List Keyword).length + (if ([] : List Keyword).isEmpty then 0 else 1) < 30)) = true := by rfl)
    (hline : (apos.endLine == cpos.line) = true := by rfl) (hs : starEach (e :: es) X.env = (false, eval e X.env) :: starEach es X.env := by rfl)
    (hplain : (backTo cpos (starEach es X.env)).any (·.1) = false := by rfl) :
    PE X (.Call (.Attribute o name apos) (e :: es) [] cpos) (tBM K T r to t) := by
  subst hK
  exact pe_bm pa slot hty hm ho ha hbase hfew hline hs hplain
theorem pe_bm0K (hK : X.K = K) (pa : PlainAttrs T) (slot : Slot T name id) (hty : typeOf (.builtin id) = pure (.type "method_descriptor")) (hm : MtR X id r)
    (ho : PE X o to) (hbase : attributeBase o name X.env (eval o X.env) = eval o X.env := by rfl) (hline : (apos.endLine == cpos.line) = true := by rfl) :
    PE X (.Call (.Attribute o name apos) [] [] cpos) (tBM0 K T r to) := by
  subst hK
  exact pe_bm0 pa slot hty hm ho hbase hline
end
section
variable {σ : L2.St} {H : Hp} {Q : VK} {D : Ends} {K : PySem.W.Frag} {p a : Addr} {Z : List Addr} {x v : V} {d : PyData} {xs : List V} {to te : TE} {t : TA} {T : String} {r : V → List V → Hp → VK → Prop}
theorem s_bm (q : to σ H fun x H1 => tyV K T x H1 ∧ t σ H1 fun xs H2 => r x xs H2 Q) : tBM K T r to t σ H Q := q
theorem s_bm0 (q : to σ H fun x H1 => tyV K T x H1 ∧ r x [] H1 Q) : tBM0 K T r to σ H Q := q
theorem ty_lst (h : H a = some (.lst xs)) : tyV K "list" (.ref a) H := .inl ⟨rfl, xs, .inl (.inl h)⟩
theorem s_append {y : V} (h : H a = some (.lst xs)) (hz : xs.length < sizeLine) (q : Q .non (upd H a (.lst (xs ++ [y])))) : rAppend (.ref a) [y] H Q := ⟨a, xs, y, rfl, rfl, h, hz, q⟩
theorem s_popAt {i : Nat} (h : H a = some (.lst xs)) (hi : i < xs.length) (hb : i < 2 ^ 62) (q : ∀ y, xs[i]? = some y → Q y (upd H a (.lst (xs.eraseIdx i)))) : rPopAt (.ref a) [.int i] H Q := by
  refine ⟨a, xs, i, i, xs[i], rfl, rfl, h, by omega, by omega, ?_, List.getElem?_eq_getElem hi, q _ (List.getElem?_eq_getElem hi)⟩
  have e : ixN xs.length (i : Int) = some i := by
    unfold ixN
    rw [if_pos (by omega), if_pos (by omega)]
    rfl
  exact (ixN_seq e).1
theorem s_insert {i : Nat} {y : V} (h : H a = some (.lst xs)) (hz : xs.length < sizeLine) (hb : i < 2 ^ 62)
    (q : Q .non (upd H a (.lst (xs.take i ++ [y] ++ xs.drop i)))) :
    (fun (x : V) (vs : List V) (H : Hp) (Q : VK) => ∃ (l : Addr) (xs : List V) (i : Int) (y : V), x = .ref l ∧ vs = [.int i, y] ∧ H l = some (.lst xs) ∧ xs.length < sizeLine ∧
      0 ≤ i ∧ i < 2 ^ 63 ∧ Q .non (upd H l (.lst (xs.take i.toNat ++ [y] ++ xs.drop i.toNat)))) (.ref a) [.int i, y] H Q :=
  ⟨a, xs, i, y, rfl, rfl, h, hz, by omega, by omega, q⟩
/-- isinstance(x, (list, tuple)) -/
theorem s_isiLT (hx : Dat K Z H d x) (hT : H a = some (.tup [.ty "list", .ty "tuple"])) (q : Q (.bl (isD d "list" || isD d "tuple")) H) : rIsiT K [x, .ref a] H Q := by
  refine ⟨x, a, _, _, [.type "list", .type "tuple"], _, rfl, hT, .cons (.ty _) (.cons (.ty _) .nil), hx.ty, ?_, q⟩
  have k1 := kit_ty (K := K) (kit_isD d (T := "list") (by simp))
  have k2 := kit_ty (K := K) (kit_isD d (T := "tuple") (by simp))
  unfold PySem.W.kitAny
  rw [k1]
  cases isD d "list" with
  | true => rfl
  | false =>
    show PySem.W.kitAny K _ _ = _
    unfold PySem.W.kitAny
    rw [k2]
    cases isD d "tuple" <;> rfl
theorem s_iOr1 {w1 w2 : TI} {RI : It → Hp → Prop} (q : w1 σ H RI) : iOr w1 w2 σ H RI := .inl q
theorem s_iOr2 {w1 w2 : TI} {RI : It → Hp → Prop} (q : w2 σ H RI) : iOr w1 w2 σ H RI := .inr q
theorem s_iEnum {ta : TA} {RI : It → Hp → Prop} (q : ta σ H fun vs H1 => ∃ a xs, vs = [.ref a] ∧ ((SqL K H1 a xs ∧ RI (Ite K a) H1) ∨ (SqT K H1 a xs ∧ RI (IteT K a) H1))) : iEnumA K ta σ H RI := q
theorem s_iZip {ta : TA} {RI : It → Hp → Prop} (q : ta σ H fun vs H1 => ∃ a b xs ys, vs = [.ref a, .ref b] ∧ ((SqL K H1 a xs ∧ SqL K H1 b ys ∧ RI (Itz K a b) H1) ∨ (SqT K H1 a xs ∧ SqT K H1 b ys ∧ RI (RZ.ItzT K a b) H1))) : RZ.iZipA K ta σ H RI := q
theorem s_lstRg {tr : L2.St → Hp → (Int → Int → Hp → Prop) → Prop} (q : tr σ H fun a b H1 => RgOk a b ∧ ∀ q, H1 q = none → Q (.ref q) (upd H1 q (.lst (rgV a b)))) : tLstRg tr σ H Q := q
theorem s_rg1 {ta : TE} {QR : Int → Int → Hp → Prop} (q : ta σ H fun x H1 => ∃ n, x = .int n ∧ QR 0 n H1) : tRg1 ta σ H QR := q
theorem s_rg2 {ta tb : TE} {QR : Int → Int → Hp → Prop} (q : ta σ H fun x H1 => tb σ H1 fun y H2 => ∃ i j, x = .int i ∧ y = .int j ∧ QR i j H2) : tRg2 ta tb σ H QR := q
/-- raise -/
theorem s_raise {C : Addr} {f : Str} {fs : List Str} {ta : TA} {QX : XK} (q : ta σ H fun vs H1 => ∃ v ws, vs = v :: ws ∧ ws.length = fs.length ∧
    ∀ d, H1 d = none → QX (.ref C) (some d) (upd H1 d (.xd ((fs.zip ws).reverse ++ [(f, v)])))) : tErr C f fs ta σ H QX := q
/-- the field of the error that the suite holds -/
theorem s_xf {cls : Value} {dd : Option Addr} {C : Addr} {f : Str} (q : te σ H fun x H1 => x = .ref a ∧ cls = .ref C ∧
    ∃ (b : Addr) (fs : List (Str × V)) (v : V), dd = some b ∧ H1 b = some (.xd fs) ∧ fs.lookup f = some v ∧ Q v H1) : tXf a cls dd C f te σ H Q := q
end

/-! ### sequences of either kind, walked -/
def seqD : PyData → Option (List PyData)
  | .list ds => some ds
  | .tuple ds => some ds
  | _ => none
section
variable {σ : L2.St} {H : Hp} {Q : VK} {K : PySem.W.Frag} {p a : Addr} {Z : List Addr} {x v : V} {d : PyData} {ds : List PyData} {xs : List V} {RI : It → Hp → Prop}
theorem Dat.seq (h : Dat K Z H d x) (hs : seqD d = some ds) : ∃ a xs, x = .ref a ∧ DatL K Z H ds xs ∧
    ((SqL K H a xs ∧ ∀ p H', p ∈ Z → R p H H' → SqL K H' a xs) ∨ (SqT K H a xs ∧ ∀ p H', p ∈ Z → R p H H' → SqT K H' a xs)) := by
  cases d with
  | list es =>
    cases hs
    simp only [Dat] at h
    obtain ⟨a, xs, e, n, s, l⟩ := h
    exact ⟨a, xs, e, l, .inl ⟨.inl s, fun p H' hp r => SqL.up r (fun z => n (z ▸ hp)) (.inl s)⟩⟩
  | tuple es =>
    cases hs
    simp only [Dat] at h
    obtain ⟨a, xs, e, n, s, l⟩ := h
    exact ⟨a, xs, e, l, .inr ⟨s, fun p H' hp r => SqT.up r hp n s⟩⟩
  | _ => cases hs
/-- [.. for y in x], x in slot i a list or a tuple of data -/
theorem s_iSeq {i : Nat} (hv : σ[i]? = some (some x)) (w : Wd p Z H) (hx : Dat K Z H d x) (hs : seqD d = some ds)
    (q : ∀ J G xs, Walk J ds.length G (YAt xs) → (∀ H', R p H H' → G H') → DatL K Z H ds xs → RI J H) :
    iOr (iList K (tVar i)) (iTup K (tVar i)) σ H RI := by
  obtain ⟨a, xs, rfl, l, ⟨h, st⟩ | ⟨h, st⟩⟩ := hx.seq hs
  · refine .inl ⟨_, hv, a, rfl, ⟨xs, h⟩, q _ _ xs ?_ (fun H' r => st p H' w.mem r) l⟩
    rw [← l.length]
    exact walk_list
  · refine .inr ⟨_, hv, a, rfl, ⟨xs, h⟩, q _ _ xs ?_ (fun H' r => st p H' w.mem r) l⟩
    rw [← l.length]
    exact walk_tup
/-- [.. for k, y in enumerate(x)] -/
theorem s_iEnumV {i : Nat} (hv : σ[i]? = some (some x)) (w : Wd p Z H) (hx : Dat K Z H d x) (hs : seqD d = some ds)
    (q : ∀ J G xs, Walk J ds.length G (YPair (fun i => some (.int (i : Nat))) (fun i => xs[i]?)) → (∀ H', R p H H' → G H') → DatL K Z H ds xs → RI J H) :
    iEnumA K (tCons (tVar i) tNil) σ H RI := by
  obtain ⟨a, xs, rfl, l, ⟨h, st⟩ | ⟨h, st⟩⟩ := hx.seq hs
  · refine ⟨_, hv, a, xs, rfl, .inl ⟨h, q _ _ xs ?_ (fun H' r => st p H' w.mem r) l⟩⟩
    rw [← l.length]
    exact walk_enum
  · refine ⟨_, hv, a, xs, rfl, .inr ⟨h, q _ _ xs ?_ (fun H' r => st p H' w.mem r) l⟩⟩
    rw [← l.length]
    exact walk_enumT
/-- a comprehension over pairs: every turn lays down the datum f i -/
theorem s_lc_pair {J : It} {n : Nat} {G : Hp → Prop} {fx fy : Nat → Option V} {gi gj : Nat} {te : TE} {vs : List Nat} {H1 : Hp}
    (wk : Walk J n G (YPair fx fy)) (hn : n < sizeLine) (wd : Wd p Z H1) (f : Nat → PyData) (hG : ∀ H, R p H1 H → G H)
    (turn : ∀ (D : Addr) i x y H, H1 D = none → D ∉ Z → i < n → fx i = some x → fy i = some y → R p H1 H → Wd p (D :: Z) H →
      ∀ F : VK, (∀ z H4, R p H H4 → Dat K (D :: Z) H4 (f i) z → F z H4) →
      wipe (((wipe σ vs).set gi (some x)).set gj (some y)) vs = wipe σ vs ∧ te (((wipe σ vs).set gi (some x)).set gj (some y)) H F)
    (done : ∀ H' v, R p H1 H' → Dat K Z H' (.list ((List.range n).map f)) v → Q v H') :
    LcG J (gTup K 2 (gCons (gName gi) (gCons (gName gj) gNil))) tYes te vs σ H1 Q := by
  refine s_lc (K := K) wk hn wd (fun i ds => ds = (List.range i).map f) rfl hG ?_ ?_
  · rintro D i x H H' ds hD nz hi hI _ r w' ⟨T, u, y, rfl, hT, rfl, hu, hy⟩ F N hF _
    subst hI
    have rT : R p H (upd H T (.tup [u, y])) := R.new hT
    obtain ⟨e, q⟩ := turn D i u y (upd H T (.tup [u, y])) hD nz hi hu hy (r.trans rT) (w'.up rT) F (fun z H4 r4 hd => hF z H4 _ (rT.trans r4) hd (by
      rw [List.range_succ, List.map_append]
      rfl))
    refine s_gtup (SqT.of upd_same) rfl (s_gcons (s_gname (s_gcons (s_gname (s_gnil ⟨e, ?_⟩)))))
    exact s_yes (iteT q)
  · intro H' v ds r hI _ hd
    subst hI
    exact done H' v r hd
end

/-! ### comprehensions over ints: the new list is new -/
section
variable {J : It} {n : Nat} {G : Hp → Prop} {Y : Nat → Hp → V → Hp → Prop} {K : PySem.W.Frag} {p : Addr} {Z : List Addr} {H : Hp} {Q : VK}
theorem s_lc_ints (w : Walk J n G Y) (hn : n < sizeLine) {g : TG} {tt : TT} {te : TE} {vs : List Nat} {σ : L2.St} {H1 : Hp}
    (wd : Wd p Z H1) (I : Nat → List Int → Prop) (h0 : I 0 []) (hG : ∀ H, R p H1 H → G H)
    (turn : ∀ (D : Addr) i x H H' ns, H1 D = none → i < n → I i ns → R p H1 H → Wd p (D :: Z) H → Y i H x H' →
      ∀ (F : VK) (N : Hp → Prop), (∀ m H4, R p H H4 → I (i + 1) (ns ++ [m]) → F (.int m) H4) → (∀ H3, R p H H3 → I (i + 1) ns → N H3) →
      g x (wipe σ vs) H' fun σ2 H2 => wipe σ2 vs = wipe σ vs ∧ tt σ2 H2 fun b H3 => if b = true then te σ2 H3 F else N H3)
    (done : ∀ H' a (ns : List Int), R p H1 H' → H1 a = none → H' a = some (.lst (ns.map V.int)) → I n ns → ns.length ≤ n → Q (.ref a) H') :
    LcG J g tt te vs σ H1 Q := by
  intro D hD
  have nz : D ∉ Z := wd.ne hD
  have np : D ≠ p := fun z => nz (z ▸ wd.mem)
  refine lc_it w (Pv := fun i H => ∃ ns : List Int, H D = some (.lst (ns.map V.int)) ∧ R p H1 H ∧ ns.length ≤ i ∧ I i ns) ?_ ?_ ?_ ?_
  · exact ⟨[], upd_same, R.new hD, Nat.le_refl _, h0⟩
  · rintro i H _ ⟨ns, e, r, _⟩
    exact hG H r
  · rintro i x H H' hi ⟨ns, e, r, le, hI⟩ y
    have wD : Wd p (D :: Z) H := (wd.up r).more (by rw [e]; exact fun w => nomatch w)
    refine turn D i x H H' ns hD hi hI r wD y _ _ (fun m H4 r4 hI' => ?_) (fun H3 r3 hI' => ?_)
    · have e4 : H4 D = some (.lst (ns.map V.int)) := r4.keep D _ np e
      refine ⟨ns.map V.int, e4, by rw [List.length_map]; omega, ns ++ [m], ?_, (r.trans r4).over hD np, by simp; omega, hI'⟩
      rw [upd_same, List.map_append]
      rfl
    · exact ⟨ns, r3.keep D _ np e, r.trans r3, by omega, hI'⟩
  · rintro H ⟨ns, e, r, le, hI⟩
    exact done H D ns r hD e hI le
/-- x[lo:hi], x a list or a tuple -/
theorem s_sl_seq {d : PyData} {x : V} {ds : List PyData} {lo hi : Option Int} (w : Wd p Z H) (hx : Dat K Z H d x) (hs : seqD d = some ds)
    (q : ∀ H' v e, R p H H' → Dat K Z H' e v → seqD e = some (sliD ds lo hi) → Q v H') : rSl K x lo hi H Q := by
  cases d with
  | list es =>
    cases hs
    exact s_sl_lst w hx fun H' v r h => q H' v _ r h rfl
  | tuple es =>
    cases hs
    exact s_sl_tup w hx fun H' v r h => q H' v _ r h rfl
  | _ => cases hs
theorem s_ne_dat {d e : PyData} {x y : V} (o : One H) (hx : Dat K Z H d x) (hy : Dat K Z H e y) (sd : SeqAt.shaped d = true) (se : SeqAt.shaped e = true)
    (q : Q (.bl (!PyData.eqv d e)) H) : rNeA K x y H Q := .inr ⟨Z, d, e, o, hx, hy, sd, se, q⟩
theorem flat_ints (ns : List Int) : (ns.map V.int).all flatV = true := by
  rw [List.all_map, List.all_eq_true]
  exact fun _ _ => rfl
theorem inV_ints (n : Int) : ∀ ns : List Int, inV (.int n) (ns.map V.int) = decide (n ∈ ns)
  | [] => rfl
  | m :: ns => by
    have ih := inV_ints n ns
    unfold inV at ih ⊢
    rw [List.map_cons, List.any_cons, ih]
    have e : eqV (.int m) (.int n) = decide (n = m) := by
      show (m == n) = _
      rw [Bool.eq_iff_iff, beq_iff_eq, decide_eq_true_eq]
      exact eq_comm
    rw [e]
    simp
/-- n not in x, x a list or a tuple of ints -/
theorem s_notIn_ints {x : V} {d : PyData} {ns : List Int} {n : Int} (hx : Dat K Z H d x) (hs : seqD d = some (ns.map .int)) (q : Q (.bl (!decide (n ∈ ns))) H) :
    rNotInA K (.int n) x H Q := by
  obtain ⟨a, xs, rfl, l, hq⟩ := hx.seq hs
  have e := l.ints
  subst e
  refine .inr ⟨a, _, rfl, hq.elim (fun h => .inl h.1) (fun h => .inr h.1), rfl, flat_ints ns, ?_⟩
  show Q (.bl (if true = true then !inV _ _ else _)) H
  rw [if_pos rfl, inV_ints]
  exact q
end
theorem sqT_same {K : PySem.W.Frag} {H H' : Hp} {a : Addr} {xs : List V} (h : SqT K H a xs) (s : Same H H') : SqT K H' a xs := by
  rcases h with (h | ⟨o, h⟩) | h
  · exact .inl (.inl (s _ _ h))
  · exact .inl (.inr ⟨o, s _ _ h⟩)
  · exact .inr h
theorem sq_same {K : PySem.W.Frag} {H H' : Hp} {a : Addr} {xs : List V} (h : SqL K H a xs ∨ SqT K H a xs) (s : Same H H') : SqL K H' a xs ∨ SqT K H' a xs :=
  h.elim (fun h => .inl (s.seq h)) (fun h => .inr (sqT_same h s))
/-- the new list at D, filled from the list at L, which is emptied by and by -/
structure Mix (p L D : Addr) (xs : List V) (H H' : Hp) (i : Nat) : Prop where
  step : R p H H'
  ex : ∃ left acc, H' L = some (.lst left) ∧ H' D = some (.lst acc) ∧ acc.length = i ∧ left.length + i = xs.length ∧ (acc ++ left).Perm xs
theorem perm_pop : ∀ {xs : List V} {i : Nat} {y : V}, xs[i]? = some y → (y :: xs.eraseIdx i).Perm xs
  | [], _, _, h => by simp at h
  | x :: r, 0, y, h => by
    have e : x = y := by simpa using h
    subst e
    exact List.Perm.refl _
  | x :: r, i + 1, y, h => by
    have ih := perm_pop (xs := r) (i := i) (y := y) (by simpa using h)
    exact (List.Perm.swap x y _).trans (ih.cons x)
end PC

set_option Elab.async false
set_option linter.all false
set_option maxRecDepth 100000
set_option maxHeartbeats 2000000
/-! PcH: instances: made, their methods called, len, repr, str of them. -/
namespace PC
open PySem PySem.Spec PyProof.Rows L2

theorem under_guards {A : Around} {C : Addr} {us : List Value} {kw : List (Str × Value)} (hg : A.guards = some []) :
    (A.under (.builtin "type.__call__" ⟨.ref C :: us, kw⟩)).guards = some [] := by
  first
  | exact hg
  | simp [Around.under, Code.weight, Code.isCreation, Code.isGuard, Code.isCaller, Code.frames, Code.isFrame, guardIds, hg]

section
variable {X : Cx} {k : Nat} {f C : Addr} {fd : FuncData} {ps ks : List Str} {sp : Sp} {dvs : List V} {ds : List Value} {W : WX}
/-- what a call may leave -/
def OutP (X : Cx) (pins : List (Addr × Obj)) (σ : L2.St) (Q : VK) : Result → Shared → Prop
  | .ok (.ret v), s' => EP X pins σ Q v s'
  | .ok _, _ => False
  | .error e, s' => X.xe e s'
/-- what a call that may raise leaves, told for the context it stands in -/
theorem out_of {pins : List (Addr × Obj)} {σ : L2.St} {H : Hp} {s : Shared} {Q : VK} (I : Inv X pins σ H s) (tk : Takes X W) {r : Result} {s' : Shared}
    (hq : CR (L2.CX X.prog X.w) X.stack X.prog X.w H s Q (fun cls d H => W cls d σ H) r s') :
    OutP X pins σ Q r s' := by
  match r, hq with
  | .error e, hq => exact tk e s' (XE.of_call I (fun _ _ _ h => h) hq)
  | .ok (.ret u), hq => exact I.after hq
  | .ok .next, hq => exact hq.elim
  | .ok .brk, hq => exact hq.elim
  | .ok .cont, hq => exact hq.elim
/-- C(..), C a class with a plain dict and a def __init__ -/
def mkSp (C : Addr) (sp : Sp) (dvs : List V) (W : WX) : L2.St → List V → Hp → VK → Prop := fun σ vs H Q => ∀ x dx, H x = none → H dx = none → dx ≠ x →
  sp (.ref x :: (vs ++ dvs)) (upd (upd H dx (.own x)) x (.ins C dx [])) (fun v H2 => v = .non ∧ Q (.ref x) H2) (fun cls d H => W cls d σ H)
theorem FnG.make (F : FnG X.prog X.w X.K X.mg X.base k f fd ps sp) (M : Mk X.K C f) (hg : X.A.guards = some []) (hr : Room (k + 1) X.A)
    (hb : Binds X.K fd ps ds) (hd : Vals dvs ds) (tk : Takes X W) : CallS X (.ref C) (mkSp C sp dvs W) := by
  intro pins s σ H vs us Q I r h
  have hq := h (s.heap.objs.size + 1) s.heap.objs.size (I.hok.fresh (Nat.le_succ _)) (I.hok.fresh (Nat.le_refl _)) (Nat.ne_of_lt (Nat.lt_succ_self _))
  have I2 := Inv.made (C := C) I
  have r2 : Vals (V.ref (s.heap.objs.size + 1) :: (vs ++ dvs)) (Value.ref (s.heap.objs.size + 1) :: (us ++ ds)) := .cons rfl (r.append hd)
  have hl : (Value.ref (s.heap.objs.size + 1) :: us ++ ds).length = ps.length := by
    have e := r2.length
    rw [F.len _ _ _ _ hq] at e
    exact e.symm
  refine wpAny_call (make_map (f := f) I.kIn M.makes M.init (beq_iff_eq.mp M.fn) (codeAny_mono
    (F.run _ X.stack _ _ ⟨Value.ref (s.heap.objs.size + 1) :: us, []⟩ _ _ _ _ (under_guards hg) (hr.make C us []) (I2.env0.make C us [])
      (hb _ (Value.ref (s.heap.objs.size + 1) :: us) I2.kIn hl) r2 hq) fun r s' hq' => ?_))
  have o := out_of I2 tk hq'
  clear hq'
  match r, o with
  | .error e, o => exact o
  | .ok (.ret u), o =>
    obtain ⟨v, H', I3, rv, ev, q3⟩ := o
    subst ev
    exact ⟨rv, ⟨V.ref (s.heap.objs.size + 1), H', I3, rfl, q3⟩⟩
  | .ok .next, o => exact o.elim
  | .ok .brk, o => exact o.elim
  | .ok .cont, o => exact o.elim
def mkSpK (C : Addr) (sp : Sp) (gV : List V → List V → List V) (W : WX) : L2.St → List V → List V → Hp → VK → Prop := fun σ vs zs H Q => ∀ x dx, H x = none → H dx = none → dx ≠ x →
  sp (gV (.ref x :: vs) zs) (upd (upd H dx (.own x)) x (.ins C dx [])) (fun v H2 => v = .non ∧ Q (.ref x) H2) (fun cls d H => W cls d σ H)
theorem FnG.makeK {g : List Value → List Value → List Value} {gV : List V → List V → List V}
    (F : FnG X.prog X.w X.K X.mg X.base k f fd ps sp) (M : Mk X.K C f) (hg : X.A.guards = some []) (hr : Room (k + 1) X.A)
    (hb : KBinds X.K fd ps ks g gV) (tk : Takes X W) : CallKS X (.ref C) ks (mkSpK C sp gV W) := by
  intro pins s σ H vs zs us ws Q I r rz h
  have hq := h (s.heap.objs.size + 1) s.heap.objs.size (I.hok.fresh (Nat.le_succ _)) (I.hok.fresh (Nat.le_refl _)) (Nat.ne_of_lt (Nat.lt_succ_self _))
  have I2 := Inv.made (C := C) I
  have r2 := hb.rel (vs := .ref (s.heap.objs.size + 1) :: vs) (us := .ref (s.heap.objs.size + 1) :: us) (.cons rfl r) rz
  have hl : (g (Value.ref (s.heap.objs.size + 1) :: us) ws).length = ps.length := by
    rw [← r2.length]
    exact F.len _ _ _ _ hq
  refine wpAny_call (make_map (f := f) I.kIn M.makes M.init (beq_iff_eq.mp M.fn) (codeAny_mono
    (F.run _ X.stack _ _ ⟨Value.ref (s.heap.objs.size + 1) :: us, ks.zip ws⟩ _ _ _ _ (under_guards hg) (hr.make C us (ks.zip ws))
      (I2.env0.make C us (ks.zip ws)) (hb.to _ (Value.ref (s.heap.objs.size + 1) :: us) ws I2.kIn hl) r2 hq) fun r s' hq' => ?_))
  have o := out_of I2 tk hq'
  clear hq'
  match r, o with
  | .error e, o => exact o
  | .ok (.ret u), o =>
    obtain ⟨v, H', I3, rv, ev, q3⟩ := o
    subst ev
    exact ⟨rv, ⟨V.ref (s.heap.objs.size + 1), H', I3, rfl, q3⟩⟩
  | .ok .next, o => exact o.elim
  | .ok .brk, o => exact o.elim
  | .ok .cont, o => exact o.elim
variable {x m : Str} {p pos apos : Pos} {o e : Expr} {es : List Expr} {kws : List Keyword} {to : TE} {t tk : TA}
    {r : L2.St → List V → Hp → VK → Prop} {rk : L2.St → List V → List V → Hp → VK → Prop} {pl : Sem Bool}
/-- o.m(..): the object stands first among the values -/
def tMS (m : Str) (C : Addr) (r : L2.St → List V → Hp → VK → Prop) (to : TE) (t : TA) : TE := fun σ H Q => to σ H fun x H1 =>
  ∃ a dx fs, x = .ref a ∧ H1 a = some (.ins C dx fs) ∧ fs.lookup m = none ∧ t σ H1 fun vs H2 => r σ (x :: vs) H2 Q
def tMKS (m : Str) (C : Addr) (r : L2.St → List V → List V → Hp → VK → Prop) (to : TE) (t tk : TA) : TE := fun σ H Q => to σ H fun x H1 =>
  ∃ a dx fs, x = .ref a ∧ H1 a = some (.ins C dx fs) ∧ fs.lookup m = none ∧ t σ H1 fun vs H2 => tk σ H2 fun zs H3 => r σ (x :: vs) zs H3 Q
theorem pe_mS (c : CallS X (.ref f) r) (cl : Cls X.K C) (hm : Meth X.K C m f) (ho : PE X o to) (ha : PA X (e :: es) t)
    (hst : starEach (e :: es) X.env = (false, eval e X.env) :: starEach es X.env := by rfl) (hpl : (backTo pos (starEach es X.env)).any (·.1) = false := by rfl)
    (ht : eval (.Call (.Attribute o m apos) (e :: es) [] pos) X.env = (do
      let ov ← eval o X.env
      standAt apos.atName
      let (f, first) ← holding [ov] (getMethod ov m pl)
      callWith pos f first (backTo pos (starEach (e :: es) X.env)) (backToKw pos (keywordEach [] X.env))) := by rfl) :
    PE X (.Call (.Attribute o m apos) (e :: es) [] pos) (tMS m C r to t) := by
  refine ⟨fun pins s σ H Q I h => PySem.W.methodCall_KW (pl := pl) (thn (ho.run pins s σ H _ I h) fun u s1 hh => ?_) ht⟩
  obtain ⟨x, H1, I1, rx, a, dx, fs, ex, ea, l, q⟩ := hh
  subst ex
  obtain rfl : u = Value.ref a := rx
  refine getmeth_ok I1 ea cl hm l ?_
  refine PySem.W.callWith_K (first := [.ref a]) (h₀ := X.base) I.ok.mod.kin hm.kp (thn (ha.run pos pins s1 σ H1 _ I1 q) fun us s2 hh2 => ?_) hst hpl
  obtain ⟨vs, H2, I2, rv, q2⟩ := hh2
  exact ⟨I2.kIn, c pins s2 σ H2 (.ref a :: vs) (.ref a :: us) Q I2 (.cons rfl rv) q2⟩
theorem pe_mS0 (c : CallS X (.ref f) r) (cl : Cls X.K C) (hm : Meth X.K C m f) (ho : PE X o to)
    (ht : eval (.Call (.Attribute o m apos) [] [] pos) X.env = (do
      let ov ← eval o X.env
      standAt apos.atName
      let (f, first) ← holding [ov] (getMethod ov m pl)
      callWith pos f first (backTo pos (starEach [] X.env)) (backToKw pos (keywordEach [] X.env))) := by rfl) :
    PE X (.Call (.Attribute o m apos) [] [] pos) (tMS m C r to tNil) := by
  refine ⟨fun pins s σ H Q I h => PySem.W.methodCall_KW (pl := pl) (thn (ho.run pins s σ H _ I h) fun u s1 hh => ?_) ht⟩
  obtain ⟨x, H1, I1, rx, a, dx, fs, ex, ea, l, q⟩ := hh
  subst ex
  obtain rfl : u = Value.ref a := rx
  refine getmeth_ok I1 ea cl hm l ?_
  exact PySem.W.callWith_K0 (first := [.ref a]) I1.kIn hm.kp (c pins s1 σ H1 [.ref a] [.ref a] Q I1 (.cons rfl .nil) q)
theorem pe_mKS0 (c : CallKS X (.ref f) ks rk) (cl : Cls X.K C) (hm : Meth X.K C m f) (ho : PE X o to) (hkw : PK X kws tk)
    (hall : (backToKw pos (keywordEach kws X.env)).all (·.1.isSome) = true := by rfl)
    (hks : (backToKw pos (keywordEach kws X.env)).filterMap (·.1) = ks := by rfl)
    (hpl : ((backTo pos (starEach [] X.env)).any (·.1) || (backToKw pos (keywordEach kws X.env)).any (·.1.isNone)) = false := by rfl)
    (ht : eval (.Call (.Attribute o m apos) [] kws pos) X.env = (do
      let ov ← eval o X.env
      standAt apos.atName
      let (f, first) ← holding [ov] (getMethod ov m pl)
      callWith pos f first (backTo pos (starEach [] X.env)) (backToKw pos (keywordEach kws X.env))) := by rfl) :
    PE X (.Call (.Attribute o m apos) [] kws pos) (tMKS m C rk to tNil tk) := by
  refine ⟨fun pins s σ H Q I h => PySem.W.methodCall_KW (pl := pl) (thn (ho.run pins s σ H _ I h) fun u s1 hh => ?_) ht⟩
  obtain ⟨x, H1, I1, rx, a, dx, fs, ex, ea, l, q⟩ := hh
  subst ex
  obtain rfl : u = Value.ref a := rx
  refine getmeth_ok I1 ea cl hm l ?_
  refine PySem.W.callWith_KW0 (first := [.ref a]) (h₀ := X.base) I.ok.mod.kin hm.kp hall (thn (hkw.run pos pins s1 σ H1 _ I1 q) fun ws s2 hh2 => ?_) hpl
  obtain ⟨zs, H2, I2, rz, q2⟩ := hh2
  refine ⟨I2.kIn, ?_⟩
  rw [hks]
  exact c pins s2 σ H2 [.ref a] zs [.ref a] ws Q I2 (.cons rfl .nil) rz q2
end

/-! ### len(o), repr(o), str(o) by the program's own defs -/
section
variable {X : Cx} {k : Nat} {f C : Addr} {fd : FuncData} {ps : List Str} {sp : Sp}
theorem inst_of {pins : List (Addr × Obj)} {σ : L2.St} {H : Hp} {s : Shared} {a C dx : Addr} {fs : List (Str × V)} (I : Inv X pins σ H s) (e : H a = some (.ins C dx fs)) :
    ∃ ox od, PySem.W.InstAt s.heap a ox C (some od) := by
  obtain ⟨d, z, ne, ob, mA, ⟨od, _, _, ho, _⟩, _⟩ := (show ObjOk X.prog X.w H s.heap a (.ins C dx fs) from I.hok a _ e)
  exact ⟨_, od, ob, rfl, rfl, ho⟩
/-- the def at f, called with the object alone, one unit deeper -/
theorem FnG.own (F : FnG X.prog X.w X.K X.mg X.base k f fd ps sp) (hg : X.A.guards = some []) {A : Around} (hgA : A.guards = some []) (hr : Room k A)
    (hb : Binds X.K fd ps []) {pins : List (Addr × Obj)} {σ : L2.St} {H : Hp} {s : Shared} {a : Addr} {Q : VK} (I : Inv X pins σ H s)
    (he : Env0 X.prog X.w X.K X.mg X.base A X.stack s H) (h : sp [.ref a] H Q E0) :
    wpAny (model X.prog X.w) A (call (.ref f) [.ref a]) (EP X pins σ Q) X.xe s := by
  have hl : ([Value.ref a] ++ []).length = ps.length := by
    rw [F.len _ _ _ _ h |>.symm]
    rfl
  refine wpAny_call (codeAny_mono (F.run A X.stack s H ⟨[.ref a], []⟩ [.ref a] [.ref a] Q E0 hgA hr he (hb s [.ref a] I.kIn hl) (.cons rfl .nil) h) fun r s' hq => ?_)
  match r, hq with
  | .error e, hq => exact passN pins σ H s e s' I hq
  | .ok (.ret u), hq => exact I.after hq
  | .ok .next, hq => exact hq.elim
  | .ok .brk, hq => exact hq.elim
  | .ok .cont, hq => exact hq.elim
def rLenI (C : Addr) (sp : Sp) : List V → Hp → VK → Prop := fun xs H Q => ∃ a dx fs, xs = [.ref a] ∧ H a = some (.ins C dx fs) ∧
  sp [.ref a] H (fun v H' => ∃ n : Int, v = .int n ∧ (0 ≤ n ∧ n < 2 ^ 63) ∧ Q (.int n) H') E0
theorem call_lenI (F : FnG X.prog X.w X.K X.mg X.base k f fd ps sp) (hs : PySem.W.findIn X.K (.ref C) "__len__" = some (some (.ref f)))
    (hf : PySem.W.isFn X.K (.ref f) = true) (hg : X.A.guards = some []) (hr : Room (k + 1) X.A) (hb : Binds X.K fd ps []) : CallR X (.builtin "len") (rLenI C sp) := by
  intro pins s σ H xs us Q I r h
  obtain ⟨a, dx, fs, rfl, ea, h⟩ := h
  rw [Vals.ref1 r]
  obtain ⟨ox, od, J⟩ := inst_of I ea
  obtain ⟨m, fr⟩ := I.fr
  refine PySem.W.len_K fr I.ok.mod.kin J hs hf (wpAny_mono (F.own hg (A := X.A.in1) hg hr.in1 hb I I.env0.in1 h) (fun v s' hv => ?_) fun _ _ e => e)
  obtain ⟨v', H', I', rv, n, rfl, hn, q⟩ := hv
  obtain ⟨t, rfl⟩ := rv
  exact ⟨hn, .int n, H', I'.tok _, ⟨_, rfl⟩, q⟩
def rStrI (C : Addr) (sp : Sp) : List V → Hp → VK → Prop := fun xs H Q => ∃ a dx fs, xs = [.ref a] ∧ H a = some (.ins C dx fs) ∧
  sp [.ref a] H (fun v H' => ∃ z : Str, v = .str z ∧ Q (.str z) H') E0
theorem call_reprI (F : FnG X.prog X.w X.K X.mg X.base k f fd ps sp) (hs : PySem.W.findIn X.K (.ref C) "__repr__" = some (some (.ref f)))
    (hf : PySem.W.isFn X.K (.ref f) = true) (hg : X.A.guards = some []) (hr : Room (k + 1) X.A) (hb : Binds X.K fd ps []) : CallR X (.builtin "repr") (rStrI C sp) := by
  intro pins s σ H xs us Q I r h
  obtain ⟨a, dx, fs, rfl, ea, h⟩ := h
  rw [Vals.ref1 r]
  obtain ⟨ox, od, J⟩ := inst_of I ea
  obtain ⟨m, fr⟩ := I.fr
  refine PySem.W.repr_K hr.in1.units0 fr I.ok.mod.kin J hs hf (wpAny_mono (F.own hg (A := X.A.in1) hg hr.in1 hb I I.env0.in1 h) (fun v s' hv => ?_) fun _ _ e => e)
  obtain ⟨v', H', I', rv, z, rfl, q⟩ := hv
  obtain ⟨t, rfl⟩ := rv
  exact ⟨.str z, H', I', ⟨t, rfl⟩, q⟩
theorem call_strI (F : FnG X.prog X.w X.K X.mg X.base k f fd ps sp) (hs : PySem.W.findIn X.K (.ref C) "__str__" = some (some (.ref f)))
    (hf : PySem.W.isFn X.K (.ref f) = true) (hg : X.A.guards = some []) (hr : Room (k + 2) X.A) (hb : Binds X.K fd ps []) : CallR X (.type "str") (rStrI C sp) := by
  intro pins s σ H xs us Q I r h
  obtain ⟨a, dx, fs, rfl, ea, h⟩ := h
  rw [Vals.ref1 r]
  obtain ⟨ox, od, J⟩ := inst_of I ea
  refine PySem.W.kso_call hr.in1.in1.units0 I.kIn J hs hf (wpAny_mono (F.own hg (A := X.A.in1.in1) hg hr.in1.in1 hb I I.env0.in1.in1 h) (fun v s' hv => ?_) fun _ _ e => e)
  obtain ⟨v', H', I', rv, z, rfl, q⟩ := hv
  obtain ⟨t, rfl⟩ := rv
  exact ⟨.str z, H', I', ⟨t, rfl⟩, q⟩
end

section
variable {X : Cx} {K : PySem.W.Frag} {f : Value} {ks : List Str}
theorem CallR.S {r : List V → Hp → VK → Prop} (c : CallR X f r) : CallS X f (fun _ => r) := fun pins s σ H vs us Q I rv h => c pins s σ H vs us Q I rv h
theorem CallKR.S {r : List V → List V → Hp → VK → Prop} (c : CallKR X f ks r) : CallKS X f ks (fun _ => r) :=
  fun pins s σ H vs zs us ws Q I rv rz h => c pins s σ H vs zs us ws Q I rv rz h
variable {o e value : Expr} {g : Str} {pos pos' : Pos} {ta tv : TE}
theorem pe_fldK (hK : X.K = K) (he : PE X e ta) (hb : attributeBase e g X.env (eval e X.env) = eval e X.env := by rfl) : PE X (.Attribute e g pos) (tFld K ta g) := by
  subst hK
  exact pe_fld he hb
theorem ps_fldK (hK : X.K = K) (ha : PE X o ta) (hv : PE X value tv) (hs : swapsWith value (some (.Attribute o g pos')) pos.line X.env = pure false := by rfl) :
    PS X (.Assign [.Attribute o g pos'] value pos) (sFld K ta tv g) := by
  subst hK
  exact ps_fld ha hv hs
end
section
variable {σ : L2.St} {H : Hp} {Q : VK} {D : Ends} {K : PySem.W.Frag} {a C dx : Addr} {fs : List (Str × V)} {v : V} {m f : Str} {to te ta tv : TE} {t tk : TA}
theorem s_ms {r : L2.St → List V → Hp → VK → Prop} (q : to σ H fun x H1 => ∃ a dx fs, x = .ref a ∧ H1 a = some (.ins C dx fs) ∧ fs.lookup m = none ∧ t σ H1 fun vs H2 => r σ (x :: vs) H2 Q) :
    tMS m C r to t σ H Q := q
theorem s_mks {r : L2.St → List V → List V → Hp → VK → Prop} (q : to σ H fun x H1 => ∃ a dx fs, x = .ref a ∧ H1 a = some (.ins C dx fs) ∧ fs.lookup m = none ∧
    t σ H1 fun vs H2 => tk σ H2 fun zs H3 => r σ (x :: vs) zs H3 Q) : tMKS m C r to t tk σ H Q := q
theorem s_fld (q : ta σ H fun x H1 => ∃ a C dx fs v, x = .ref a ∧ H1 a = some (.ins C dx fs) ∧ Cls K C ∧ NoAttr K C f ∧ fs.lookup f = some v ∧ Q v H1) : tFld K ta f σ H Q := q
theorem s_sfld (q : tv σ H fun y H1 => ta σ H1 fun x H2 => ∃ a C dx fs, x = .ref a ∧ H2 a = some (.ins C dx fs) ∧ Cls K C ∧ NoAttr K C f ∧ fs.length < 1000 ∧ D.nx σ (upd H2 a (.ins C dx (putF f y fs)))) :
    sFld K ta tv f D σ H := q
end
end PC

set_option Elab.async false
set_option linter.all false
set_option maxRecDepth 100000
set_option maxHeartbeats 2000000
/-! PcI: what was shown of an elder heap, told of a later one; more steps. -/
namespace PC
open PySem PySem.Spec PyProof.Rows L2

section
variable {K : PySem.W.Frag} {p a D : Addr} {Z : List Addr} {H H1 H' : Hp} {d : PyData} {v : V} {xs : List V}
theorem Dat.lift (r : R p H H') (m : p ∈ Z) (h : Dat K Z H d v) : Dat K Z H' d v := Dat.up r m d v h
theorem Dat.liftM (r1 : R p H H1) (hD : H1 D = none) (r2 : R p H1 H') (m : p ∈ Z) (h : Dat K Z H d v) : Dat K (D :: Z) H' d v :=
  Dat.up r2 (List.mem_cons_of_mem _ m) d v (Dat.more hD d v (Dat.up r1 m d v h))
theorem Dat.liftW {H0 : Hp} (w : Wd p Z H0) (h : Dat K Z H d v) (r : R p H H') : Dat K Z H' d v := Dat.up r w.mem d v h
theorem Dat.liftMW {H0 : Hp} (w : Wd p Z H0) (hD : H1 D = none) (h : Dat K Z H d v) (r1 : R p H H1) (r2 : R p H1 H') : Dat K (D :: Z) H' d v :=
  Dat.liftM r1 hD r2 w.mem h
theorem R.potW (h : Pot p H) (r : R p H H') : Pot p H' := r.pot h
theorem R.insW {C dx : Addr} {fs : List (Str × V)} (e : H a = some (.ins C dx fs)) (r : R p H H') : H' a = some (.ins C dx fs) :=
  r.stay a _ (fun _ z => nomatch z) e
theorem R.ins {C dx : Addr} {fs : List (Str × V)} (r : R p H H') (e : H a = some (.ins C dx fs)) : H' a = some (.ins C dx fs) :=
  r.stay a _ (fun _ z => nomatch z) e
theorem R.xd {fs : List (Str × V)} (r : R p H H') (e : H a = some (.xd fs)) : H' a = some (.xd fs) :=
  r.stay a _ (fun _ z => nomatch z) e
theorem R.tup (r : R p H H') (e : H a = some (.tup xs)) : H' a = some (.tup xs) :=
  r.stay a _ (fun _ z => nomatch z) e
theorem R.lst (r : R p H H') (n : a ≠ p) (e : H a = some (.lst xs)) : H' a = some (.lst xs) := r.keep a _ n e
theorem Wd.neq (w : Wd p Z H) (h : H a = none) : a ≠ p := fun z => w.occ p w.mem (z ▸ h)
theorem Wd.old (w : Wd p Z H) (r : R p H H') (h : H' a = none) : H a = none := R.free r ((w.up r).neq h) h
end
theorem s_in_ints {K : PySem.W.Frag} {Z : List Addr} {H : Hp} {Q : VK} {x : V} {d : PyData} {ns : List Int} {n : Int} (hx : Dat K Z H d x) (hs : seqD d = some (ns.map .int)) (q : Q (.bl (decide (n ∈ ns))) H) :
    rInA K (.int n) x H Q := by
  obtain ⟨a, xs, rfl, l, hq⟩ := hx.seq hs
  have e := l.ints
  subst e
  refine .inr ⟨a, _, rfl, hq.elim (fun h => .inl h.1) (fun h => .inr h.1), rfl, flat_ints ns, ?_⟩
  show Q (.bl (if false = true then _ else inV _ _)) H
  rw [if_neg (by decide), inV_ints]
  exact q
section
variable {K : PySem.W.Frag} {p a b : Addr} {Z : List Addr} {H : Hp} {d : PyData} {v : V} {xs ys : List V}
/-- one list changes -/
theorem put_ne (h : H a = some (.lst xs)) {o : HO} (e : H b = some o) (n : ∀ zs, o ≠ .lst zs) {o' : HO} : upd H a o' b = some o := by
  by_cases z : b = a
  · subst z
    rw [h] at e
    exact absurd (Option.some.inj e).symm (n xs)
  · rw [upd_ne z]
    exact e
theorem Wd.put (w : Wd p Z H) (h : H a = some (.lst xs)) : Wd p Z (upd H a (.lst ys)) := by
  refine ⟨?_, fun c hc => ?_, w.mem⟩
  · obtain ⟨o, u, e⟩ := w.one
    exact ⟨o, u, put_ne h e fun _ z => nomatch z⟩
  · by_cases z : c = a
    · subst z
      rw [upd_same]
      exact fun z => nomatch z
    · rw [upd_ne z]
      exact w.occ c hc
theorem ins_put {C dx : Addr} {fs : List (Str × V)} (h : H a = some (.lst xs)) (e : H b = some (.ins C dx fs)) {o' : HO} : upd H a o' b = some (.ins C dx fs) :=
  put_ne h e fun _ z => nomatch z
theorem Pot.put (h : Pot p H) (n : a ≠ p) {o' : HO} : Pot p (upd H a o') := by
  obtain ⟨x, y, e, q⟩ := h
  exact ⟨x, y, by rw [upd_ne n.symm]; exact e, q⟩
end
/-- two equal data are equal -/
theorem s_ne_self {K : PySem.W.Frag} {Z : List Addr} {H : Hp} {Q : VK} {x y : V} {d : PyData} {k n : Nat} (o : One H) (hx : Dat K Z H d x) (hy : Dat K Z H d y) (t : Tame d k n) (hk : k ≤ 64) (hd : d.hasDict = false)
    (q : Q (.bl false) H) : rNeA K x y H Q := by
  refine s_ne_dat o hx hy (t.shaped hk hd) (t.shaped hk hd) ?_
  rw [PySem.SeqAt.eqv_refl d (canLay_of d t.lay hd)]
  exact q
theorem s_clear {a : Addr} {xs : List V} {H : Hp} {Q : VK} (h : H a = some (.lst xs)) (q : Q .non (upd H a (.lst []))) : rClear (.ref a) [] H Q := ⟨a, xs, rfl, rfl, h, q⟩
/-- [..] * n -/
theorem s_rep {l : Addr} {k : Int} {xs : List V} {H : Hp} {Q : VK} (h : H l = some (.lst xs)) (k1 : -(2 ^ 62) ≤ k) (k2 : k < 2 ^ 62) (hz : xs.length * k.toNat ≤ 50000)
    (q : ∀ p, H p = none → Q (.ref p) (upd H p (.lst (List.replicate k.toNat xs).flatten))) : rRep (.ref l) (.int k) H Q :=
  ⟨l, k, xs, rfl, rfl, h, by omega, by omega, sl_of hz, q⟩
/-! ### comprehensions over int lists with places -/
section
variable {J : It} {n : Nat} {G : Hp → Prop} {K : PySem.W.Frag} {p : Addr} {Z : List Addr} {Q : VK} {fx fy : Nat → Option V} {gi gj : Nat} {te : TE} {tt : TT} {vs : List Nat} {σ : L2.St} {H1 : Hp}
/-- [.. for i, y in enumerate(x) if ..]: ints -/
theorem s_lc_pairInts (w : Walk J n G (YPair fx fy)) (hn : n < sizeLine)
    (wd : Wd p Z H1) (I : Nat → List Int → Prop) (h0 : I 0 []) (hG : ∀ H, R p H1 H → G H)
    (turn : ∀ (D : Addr) i x y H ns, H1 D = none → i < n → I i ns → R p H1 H → Wd p (D :: Z) H → fx i = some x → fy i = some y →
      ∀ (F : VK) (N : Hp → Prop), (∀ m H4, R p H H4 → I (i + 1) (ns ++ [m]) → F (.int m) H4) → (∀ H3, R p H H3 → I (i + 1) ns → N H3) →
      wipe (((wipe σ vs).set gi (some x)).set gj (some y)) vs = wipe σ vs ∧ tt (((wipe σ vs).set gi (some x)).set gj (some y)) H fun b H3 =>
        if b = true then te (((wipe σ vs).set gi (some x)).set gj (some y)) H3 F else N H3)
    (done : ∀ H' a (ns : List Int), R p H1 H' → H1 a = none → H' a = some (.lst (ns.map V.int)) → I n ns → ns.length ≤ n → Q (.ref a) H') :
    LcG J (gTup K 2 (gCons (gName gi) (gCons (gName gj) gNil))) tt te vs σ H1 Q := by
  refine s_lc_ints w hn wd I h0 hG ?_ done
  rintro D i x H H' ns hD hi hI r w' ⟨T, u, y, rfl, hT, rfl, hu, hy⟩ F N hF hN
  have rT : R p H (upd H T (.tup [u, y])) := R.new hT
  have q := turn D i u y (upd H T (.tup [u, y])) ns hD hi hI (r.trans rT) (w'.up rT) hu hy F N (fun m H4 r4 h => hF m H4 (rT.trans r4) h) (fun H3 r3 h => hN H3 (rT.trans r3) h)
  exact s_gtup (SqT.of upd_same) rfl (s_gcons (s_gname (s_gcons (s_gname (s_gnil q)))))
end
/-! ### the outermost steps -/
theorem same_of_one {H H' : Hp} (o : One H) (r : R sysModules H H') : Same H H' := fun b x e => by
  by_cases c : b = sysModules
  · subst c
    obtain ⟨o1, u, e1⟩ := o
    rw [e1] at e
    cases e
    exact r.frz _ _ _ e1
  · exact r.keep b x c e
theorem wd_one {H : Hp} (o : One H) : Wd sysModules [sysModules] H :=
  ⟨o, fun b hb => by
    obtain rfl := List.mem_singleton.mp hb
    obtain ⟨o1, u, e1⟩ := o
    rw [e1]
    exact fun z => (nomatch z), List.mem_singleton.mpr rfl⟩
theorem wd_pot {H : Hp} {p : Addr} (o : One H) (hp : Pot p H) : Wd p [p] H :=
  ⟨o, fun b hb => by
    obtain rfl := List.mem_singleton.mp hb
    obtain ⟨_, _, e, _⟩ := hp
    rw [e]
    exact fun z => (nomatch z), List.mem_singleton.mpr rfl⟩
theorem same_pot {p : Addr} {H H1 H2 : Hp} (s : Same H H1) (hn : H p = none) (r : R p H1 H2) : Same H H2 := fun b o e =>
  r.keep b o (ne_of_none e hn) (s b o e)
theorem dat_dflt {K : PySem.W.Frag} {Z : List Addr} {H : Hp} {a : Addr} (h : SqT K (fun _ => none) a []) : Dat K Z H (.tuple []) (.ref a) := by
  simp only [Dat]
  refine ⟨a, [], rfl, .inr h, ?_, datL_nil⟩
  rcases h with (h | ⟨o, h⟩) | h
  · cases h
  · cases h
  · exact .inr h
theorem s_at_nat {K : PySem.W.Frag} {a : Addr} {xs : List V} {H : Hp} {Q : VK} {i : Nat} {v : V} (h : H a = some (.lst xs)) (hi : xs[i]? = some v) (q : Q v H) : rIx K (.ref a) (.int i) H Q :=
  .inl ⟨a, xs, i, v, rfl, rfl, .inl (.inl h), atI_nat hi, q⟩
theorem Dat.empty_Z {K : PySem.W.Frag} {p : Addr} {H H' : Hp} {d : PyData} {v : V} (h : Dat K [] H d v) (hp : H p = none) (r : R p H H') : Dat K [p] H' d v :=
  Dat.up r (List.mem_singleton.mpr rfl) d v (Dat.more hp d v h)
theorem Dat.noZ {K : PySem.W.Frag} {Z : List Addr} {H : Hp} {d : PyData} {v : V} (h : Dat K Z H d v) : Dat K [] H d v :=
  Dat.less (fun _ z => absurd z (List.not_mem_nil)) d v h
/-! ### ways that come together again -/
section
variable {X : Cx} {c a b e : Expr} {pos : Pos} {tA : TT} {ta tb te : TE} {st : Stmt} {rest : List Stmt} {t u : TS} {σ : L2.St} {H : Hp} {Q : VK} {D : Ends}
def tJ (te : TE) : TE := fun σ H Q => ∃ P : VK, te σ H P ∧ ∀ v H', P v H' → Q v H'
theorem pe_j (h : PE X e te) : PE X e (tJ te) := ⟨fun pins s σ H Q I q => by
  obtain ⟨P, q, m⟩ := q
  exact thn (h.run pins s σ H P I q) fun v s1 ⟨x, H1, I1, r1, q1⟩ => ⟨x, H1, I1, r1, m x H1 q1⟩⟩
/-- behind the value, what is kept of it -/
theorem s_j (P : VK) (q : te σ H P) (m : ∀ v H', P v H' → Q v H') : tJ te σ H Q := ⟨P, q, m⟩
def tSeqJ (t u : TS) : TS := fun D σ H => ∃ N : L2.St → Hp → Prop, t { D with nx := N } σ H ∧ ∀ σ' H', N σ' H' → u D σ' H'
theorem pss_consJ (h1 : PS X st t) (h2 : PSs X rest u) : PSs X (st :: rest) (tSeqJ t u) := by
  refine ⟨fun pins s σ H D I h => ?_⟩
  obtain ⟨N, h, m⟩ := h
  refine wpAny_execs_cons (thn (h1.run pins s σ H { D with nx := N } I h) fun f s1 q => ?_)
  cases f with
  | next =>
    obtain ⟨σ', H', I', q⟩ := q
    exact h2.run pins s1 σ' H' D I' (m _ _ q)
  | ret v => exact q
  | brk => exact q
  | cont => exact q
theorem s_seqJ (N : L2.St → Hp → Prop) (q : t { D with nx := N } σ H) (m : ∀ σ' H', N σ' H' → u D σ' H') : tSeqJ t u D σ H := ⟨N, q, m⟩
end
/-! ### f-strings -/
section
variable {X : Cx} {σ : L2.St} {H : Hp} {Q : VK} {te : TE} {ts : List TE} {acc : Str}
theorem s_joined (q : tJs ts Str.empty σ H fun out H1 => Q (.str out) H1) : (fun σ H (Q : VK) => tJs ts Str.empty σ H fun out H1 => Q (.str out) H1) σ H Q := q
theorem s_fmt (q : te σ H fun x H1 => (∃ y : Str, x = .str y ∧ y.length ≤ sizeLine ∧ Q (.str y) H1) ∨ ∃ i : Int, x = .int i ∧ i.natAbs.log2 < 1920 ∧ Q (.str (toString i)) H1) : tFmt te σ H Q := q
end
end PC

set_option Elab.async false
set_option linter.all false
set_option maxRecDepth 100000
set_option maxHeartbeats 2000000
/-! PcJ: several except clauses, each with a name; isinstance of the program's own objects. -/
namespace PC
open PySem PySem.Spec PyProof.Rows L2

/-! ### several clauses `except C as n` -/
/-- a clause: its class, the slot of its name, its suite -/
abbrev Clause := Value × Nat × (Addr → Value → Option Addr → TS)
/-- behind a suite the name is gone -/
abbrev goneE (i : Nat) (D : Ends) : Ends := ⟨fun τ G => D.nx (τ.set i none) G, D.rt, fun τ G => D.bk (τ.set i none) G, fun τ G => D.ct (τ.set i none) G⟩
def wCl (K : PySem.W.Frag) (W : WX) (D : Ends) : List Clause → WX
  | [] => W
  | (c, i, t) :: r => fun k d σ H => ∃ b, PySem.W.exmOne K k c = some b ∧
      (b = true → ∀ a, H a = none → t a k d (goneE i D) (σ.set i (some (.ref a))) H) ∧ (b = false → wCl K W D r k d σ H)
inductive ClOk (X : Cx) : List ExceptHandler → List Clause → Prop
  | nil : ClOk X [] []
  | cons {x n : Str} {c : Value} {i : Nat} {t : Addr → Value → Option Addr → TS} {s1 : Stmt} {ss : List Stmt} {p q : Pos} {hs : List ExceptHandler} {l : List Clause}
      (hi : X.N[i]? = some n) (hl : X.env.kindOf n = some .local) (hc : Names X x c)
      (body : ∀ (a : Addr) (o : Obj) (k : Value) (d : Option Addr) (pn : List (Addr × Obj)), Zc k d o → (∃ vs, o.data = .fields vs) → PSs (X.suite a ((a, o) :: pn)) (s1 :: ss) (t a k d))
      (rest : ClOk X hs l) : ClOk X (.ExceptHandler (some (.Name x p)) (some n) (s1 :: ss) q :: hs) ((c, i, t) :: l)
section
variable {X : Cx} {W : WX} {D : Ends}
/-- an object with fields is no frame's -/
theorem far_of {B : Heap} {h : Heap} {st : List Env} {a : Addr} {o : Obj} {vs : Array Value} (ff : h.FunFrames B st) (e : h.get? a = some o) (dd : o.data = .fields vs) : a ∉ frs st := by
  intro m
  obtain ⟨_, o2, e2, bad⟩ := ff.mem m
  rw [e] at e2
  cases e2
  exact bad _ dd
/-- an exception that was caught, shown to the clauses from here on -/
theorem clauses_run (hst : X.stack = X.env :: X.outer) (hfr : X.env.frame = some X.env.locals) (nd : X.N.Nodup) (out : Takes X W)
    {B : Heap} {s0 s1 : Shared} {pins : List (Addr × Obj)} {σ : L2.St} {H : Hp} {a : Addr} {k : Value} {d : Option Addr} (ok : X.Ok) (I : Inv X pins σ H s0)
    (nb : ∀ b o, s0.heap.get? b = some o → b ∉ frs X.stack → B.get? b = some o) (fl : HandSPX.FlyingZ B (X.env :: X.outer) a (Zc k d) s1.heap) (up : s0.heap.UpToSlots s1.heap)
    (na : H a = none) (os : s1.os = s0.os) (ag : AllBare s1.gens) :
    ∀ {hs : List ExceptHandler} {l : List Clause}, ClOk X hs l → wCl X.K W D l k d σ H → wpAny (model X.prog X.w) X.A (handleBy (.ref a) X.env hs) (SP X pins D) X.xe s1 := by
  have J : Inv X pins σ H s1 := I.landed nb fl.1 up os ag
  obtain ⟨o1, _, e1, z1, dd1⟩ := fl.there
  have apart := far_of fl.2.2.1 e1 dd1
  have a1 : a ≠ X.env.locals := fun z => apart (List.mem_filterMap.mpr ⟨_, List.mem_cons_self, z ▸ hfr⟩)
  have a2 : a ∉ X.fs := fun m => by
    obtain ⟨y, hy, ey⟩ := List.mem_filterMap.mp m
    exact apart (List.mem_filterMap.mpr ⟨y, .tail _ hy, ey⟩)
  intro hs l ck
  induction ck with
  | nil =>
    intro wish
    obtain ⟨_, _, _, o2, us, T, _, _, e2, _, dd2, u1, _⟩ := id fl
    refine wpAny_handleBy_nil ?_
    unfold PySem.passOn
    refine wpAny_bind (wpAny_field e2 dd2 u1 ?_)
    rw [if_neg (by simp)]
    have leave : wpAny (model X.prog X.w) X.A (setFlight (.ref a) X.env.frame) (fun _ t => wpAny (model X.prog X.w) X.A (throw (.ref a) : Sem Flow) (SP X pins D) X.xe t) X.xe s1 := by
      rw [hfr]
      refine HandSPX.setFlight_upZ fl fun g held up2 => wpAny_throw (out _ _ ⟨a, B, s0, pins, σ, H, k, d, rfl, I, nb, up.trans up2, ?_, na, os, ag, wish⟩)
      rw [hst]
      exact .inr (.inr held)
    first
      | exact wpAny_bind (wpAny_pure (wpAny_bind leave))
      | exact wpAny_bind leave
  | @cons x n c i t y1 ys p q hs l hi hl hc body _ ih =>
    rintro ⟨b, eb, yes, no⟩
    have V1 := J.suite e1 dd1 na a1 a2
    have known : PySem.W.Looks (model X.prog X.w) s1.heap (typeOf (.ref a)) k := fun A Q E st kp qq => wpAny_typeOf_ref (kp _ _ e1) (by rw [z1.1]; exact qq)
    have asked := PySem.W.exm_one (M := model X.prog X.w) J.kIn known eb
    have named : wpAny (model X.prog X.w) (X.A.mark (some (.ref a))) (eval (.Name x p) X.env) (fun u st => u = c ∧ s1 = st) (fun _ _ => False) s1 := by
      rcases hc with ⟨g, ndb, m | ⟨m, bv, nn⟩⟩
      · exact ld_glob (X := X.suite a ((a, o1) :: (X.pn ++ pins))) V1 g m ⟨rfl, rfl⟩ ndb
      · exact ld_blt (X := X.suite a ((a, o1) :: (X.pn ++ pins))) V1 g m bv ⟨rfl, rfl⟩ nn ndb
    refine wpAny_handleBy_cons (codeAny_handlers_test ?_) (fun w => nomatch w)
    refine wpAny_mono named ?_ fun _ _ w => w.elim
    rintro _ _ ⟨rfl, rfl⟩
    refine asked.here ?_
    cases b with
    | false => exact ih (no rfl)
    | true =>
      refine codeAny_handlers_suite_as (HandSPX.lands_againZ fl fun g fl2 up2 => ?_)
      have J2 : Inv X pins σ H { s1 with heap := g } := I.landed nb fl2.1 (up.trans up2) os ag
      obtain ⟨o2, _, e2, z2, dd2⟩ := fl2.there
      refine store_ok (X := X.suite a ((a, o2) :: (X.pn ++ pins))) (v := .ref a) (J2.suite e2 dd2 na a1 a2) nd hi (.inl hl) rfl (fun t2 S2 => ?_) (.inr hl)
      have drop : ∀ {τ : L2.St} {G : Hp} {t3 : Shared} {R : Shared → Prop}, Inv (X.suite a ((a, o2) :: (X.pn ++ pins))) [] τ G t3 → (∀ t4, Inv X pins (τ.set i none) G t4 → R t4) →
          wpAny (model X.prog X.w) X.A (do bindName X.env n .none; unbindBehindTheSuite X.env n q) (fun _ t4 => R t4) X.xe t3 := fun S hR => gone_ok (S.unsuite ok) nd hi hl hR
      refine wpAny_mono ((body a o2 k d (X.pn ++ pins) z2 ⟨_, dd2⟩).run [] t2 _ H _ S2 (yes rfl a na)) (fun f t3 hf => ?_) fun _ _ w => w.elim
      cases f with
      | next => exact drop hf.choose_spec.choose_spec.1 fun t4 S4 => ⟨_, _, S4, hf.choose_spec.choose_spec.2⟩
      | brk => exact drop hf.choose_spec.choose_spec.1 fun t4 S4 => ⟨_, _, S4, hf.choose_spec.choose_spec.2⟩
      | cont => exact drop hf.choose_spec.choose_spec.1 fun t4 S4 => ⟨_, _, S4, hf.choose_spec.choose_spec.2⟩
      | ret u =>
        obtain ⟨v, τ, G, S3, rv, qq⟩ := hf
        exact drop S3 fun t4 S4 => ⟨v, _, G, S4, rv, qq⟩
/-- try: body / except C as n: .. / except C' as n': .. -/
theorem ps_try_clauses {body : List Stmt} {h0 : ExceptHandler} {hs : List ExceptHandler} {l : List Clause} {pos : Pos} {tb : WX → TS}
    (hst : X.stack = X.env :: X.outer) (hfr : X.env.frame = some X.env.locals) (nd : X.N.Nodup) (out : Takes X W)
    (hb : ∀ (V : WX) (pn : List (Addr × Obj)) (xe : Value → Shared → Prop), Takes (X.tr pn xe) V → PassesOwn (model X.prog X.w) X.A X.env xe → PSs (X.tr pn xe) body (tb V))
    (ck : ClOk X (h0 :: hs) l) : PS X (.Try body (h0 :: hs) [] [] pos) (fun D σ H => tb (wCl X.K W D l) D σ H) := by
  constructor
  intro pins s σ H D I h
  have ok := I.ok
  refine wpAny_Try_except (wpAny_mono ((hb (wCl X.K W D l) (X.pn ++ pins) _ (fun u t fly => ?_) PassesOwn.looking).run [] s σ H D (I.toTry _) h) (fun f t done => ?_) fun _ _ w => w)
  · obtain ⟨a, B, s0, pins0, τ, G, k, d, rfl, I0, nb, up, sky, na, os, ag, wish⟩ := fly
    have sky2 : Sky B (X.env :: X.outer) a (Zc k d) X.env.locals t.heap := hst ▸ sky
    refine Sky.land Zc.steady (ok.frames.trans (by rw [hst])) hfr sky2 fun g fl up2 => ?_
    exact clauses_run hst hfr nd out (B := B) (s0 := s0) (s1 := { t with heap := g }) ok (I0.ofTry ok) nb fl (up.trans up2) na os ag ck wish
  · cases f with
    | next => exact wpAny_execs_nil ⟨_, _, done.choose_spec.choose_spec.1.ofTry ok, done.choose_spec.choose_spec.2⟩
    | brk => exact ⟨_, _, done.choose_spec.choose_spec.1.ofTry ok, done.choose_spec.choose_spec.2⟩
    | cont => exact ⟨_, _, done.choose_spec.choose_spec.1.ofTry ok, done.choose_spec.choose_spec.2⟩
    | ret u =>
      obtain ⟨v, τ, G, J, r, q⟩ := done
      exact ⟨v, τ, G, J.ofTry ok, r, q⟩
end
/-! ### isinstance of the program's own objects -/
structure InstT (K : PySem.W.Frag) (C : Addr) : Prop where
  ca : PySem.W.findIn K (.ref C) "__class__" = some (some (.builtin "object.__class__"))
  ob : PySem.W.mroIn K C (.type "object") = some true
theorem s_isiC {K : PySem.W.Frag} {H : Hp} {Q : VK} {a C dx : Addr} {fs : List (Str × V)} (c : Cls K C) (t : InstT K C) (q0 : ClsQ K) (e : H a = some (.ins C dx fs)) (q : Q (.bl true) H) : rIsi K [.ref a, .ref C] H Q :=
  ⟨.ref a, .ref C, .ref C, .ref C, true, rfl, .own C, .base (.ins e c t.ca q0.get q0.tk t.ob), by unfold PySem.W.kitOne; rw [if_pos (by simp)], q⟩
/-! ### {x!r} of data -/
section
variable {X : Cx}
def tFmtRD (K : PySem.W.Frag) (te : TE) : TE := fun σ H Q => te σ H fun x H1 => ∃ Z d, One H1 ∧ (∃ a, x = .ref a) ∧ Dat K Z H1 d x ∧ Tame d 40 50000 ∧ Q (.str d.shown) H1
theorem pe_fmtRD {K : PySem.W.Frag} {k : Nat} (hK : X.K = K) (hg : X.A.guards = some []) (hr : Room k X.A) {e : Expr} {te : TE} {pos : Pos} (he : PE X e te) : PE X (.FormattedValue e 114 none pos) (tFmtRD K te) := by
  subst hK
  refine ⟨fun pins s σ H Q I h => ?_⟩
  refine wpAny_FormattedValue_repr (thn (he.run pins s σ H _ I h) fun v s1 hv => ?_)
  obtain ⟨x, H1, I1, r1, Z, d, o1, ⟨a, rfl⟩, hd, t, q⟩ := hv
  cases (show v = Value.ref a from r1)
  obtain ⟨as, hr', ns⟩ := Dat.reads I1 o1 d (.ref a) _ hd rfl
  have hu := hr.units
  have hd' := t.depth
  refine pyReprObj_of_reads hr' t.show_ (fun _ => ns) hg (by omega) (fun _ _ z => z) (fun h' u tk kp => ?_) (t.len (by decide))
  exact wpAny_formatField_str ⟨.str d.shown, H1, I1.kept kp, ⟨_, rfl⟩, q⟩ ⟨.str d.shown, H1, (I1.kept kp).tok _, ⟨_, rfl⟩, q⟩ (t.len (by decide))
end
section
variable {σ : L2.St} {H : Hp} {Q : VK} {te : TE} {ts : List TE} {acc : Str} {QS : Str → Hp → Prop}
theorem s_bits (q : te σ H fun x H1 => ∃ i, x = .int i ∧ Q (.int (Builtin.Int.intBits i : Nat)) H1) : tBits te σ H Q := q
theorem s_js (q : te σ H fun x H1 => ∃ y : Str, x = .str y ∧ (acc ++ y).length ≤ sizeLine ∧ tJs ts (acc ++ y) σ H1 QS) : tJs (te :: ts) acc σ H QS := q
theorem s_js0 (q : QS acc H) : tJs [] acc σ H QS := q
end
/-! ### [x for x in xs if ..], ints -/
section
variable {J : It} {n : Nat} {G : Hp → Prop} {K : PySem.W.Frag} {p : Addr} {Z : List Addr} {Q : VK} {gi : Nat} {tt : TT} {te : TE} {vs : List Nat} {σ : L2.St} {H1 : Hp} {ts : List Int}
theorem take_filter_succ {ts : List Int} {i : Nat} {x : Int} (P : Int → Bool) (hx : ts[i]? = some x) : (ts.take (i + 1)).filter P = (ts.take i).filter P ++ (if P x = true then [x] else []) := by
  rw [List.take_add_one, hx, List.filter_append]
  by_cases c : P x = true <;> simp [c]
theorem s_lc_filt (wk : Walk J (ts.map PyData.int).length G (YAt (ts.map V.int))) (hn : ts.length ≤ 50000) (wd : Wd p Z H1) (P : Int → Bool) (hG : ∀ H, R p H1 H → G H)
    (hgi : ∀ x : V, wipe ((wipe σ vs).set gi (some x)) vs = wipe σ vs ∧ ((wipe σ vs).set gi (some x))[gi]? = some (some x))
    (turn : ∀ (D : Addr) x H, H1 D = none → x ∈ ts → R p H1 H → Wd p (D :: Z) H → ∀ QT : Bool → Hp → Prop, (∀ H', R p H H' → QT (P x) H') → tt ((wipe σ vs).set gi (some (.int x))) H QT)
    (done : ∀ H' a, R p H1 H' → H1 a = none → H' a = some (.lst ((ts.filter P).map V.int)) → Q (.ref a) H') :
    LcG J (gName gi) tt (tVar gi) vs σ H1 Q := by
  refine s_lc_ints wk (sl_lt (by simpa using hn)) wd (fun i ns => ns = (ts.take i).filter P) (by simp) hG ?_ ?_
  · rintro D i x H2 H3 ns hD hi rfl r w' ⟨rfl, hx⟩ F N hF hN
    have hi' : i < ts.length := by simpa using hi
    have ex : x = .int ts[i] := by simpa [hi'] using hx.symm
    subst ex
    have e0 := take_filter_succ (ts := ts) (i := i) (x := ts[i]) P (List.getElem?_eq_getElem hi')
    refine ⟨(hgi _).1, turn D ts[i] _ hD (List.getElem_mem hi') r w' _ fun H' r' => ?_⟩
    refine ite_b (fun c => ?_) (fun c => ?_)
    · refine ⟨_, (hgi _).2, hF _ _ r' ?_⟩
      rw [e0, if_pos c]
    · refine hN _ r' ?_
      rw [e0, if_neg (by rw [c]; decide), List.append_nil]
  · rintro H2 a ns r ha hn2 rfl _
    rw [List.length_map, List.take_length] at hn2
    exact done H2 a r ha hn2
end
section
variable {K : PySem.W.Frag} {Z : List Addr} {H : Hp} {Q : VK} {x y : V} {d : PyData} {ds : List PyData}
theorem s_eq_self {k n : Nat} (o : One H) (hx : Dat K Z H d x) (hy : Dat K Z H d y) (t : Tame d k n) (hk : k ≤ 64) (hd : d.hasDict = false) (q : Q (.bl true) H) : rEqA K x y H Q := by
  refine s_eq_dat o hx hy (t.shaped hk hd) (t.shaped hk hd) ?_
  rw [PySem.SeqAt.eqv_refl d (canLay_of d t.lay hd)]
  exact q
theorem s_ixT {i : Nat} (hx : Dat K Z H (.tuple ds) x) (hi : ds[i]? = some d) (q : ∀ v, Dat K Z H d v → Q v H) : rIx K x (.int i) H Q := by
  have hl : i < ds.length := (List.getElem?_eq_some_iff.mp hi).1
  refine s_ix_tup hx (Int.natCast_nonneg i) (by omega) fun v e he hv => ?_
  rw [Int.toNat_natCast, hi] at he
  cases he
  exact q v hv
theorem s_ixL {i : Nat} (hx : Dat K Z H (.list ds) x) (hi : ds[i]? = some d) (q : ∀ v, Dat K Z H d v → Q v H) : rIx K x (.int i) H Q := by
  have hl : i < ds.length := (List.getElem?_eq_some_iff.mp hi).1
  refine s_ix_lst hx (Int.natCast_nonneg i) (by omega) fun v e he hv => ?_
  rw [Int.toNat_natCast, hi] at he
  cases he
  exact q v hv
end
theorem R.xdW {p b : Addr} {H H' : Hp} {fs : List (Str × V)} (e : H b = some (.xd fs)) (r : R p H H') : H' b = some (.xd fs) := r.stay b _ (fun _ z => nomatch z) e
section
variable {K : PySem.W.Frag} {p : Addr} {Z : List Addr} {H : Hp} {x : V} {ds : List PyData} {g : TG} {tt : TT} {te : TE} {vs : List Nat} {σ : L2.St} {Q : VK} {tb : TS} {D : Ends}
theorem s_iLC (w : Wd p Z H) (hx : Dat K Z H (.list ds) x)
    (q : ∀ J G xs, Walk J ds.length G (YAt xs) → (∀ H', R p H H' → G H') → DatL K Z H ds xs → LcG J g tt te vs σ H Q) : ∃ a, x = .ref a ∧ (∃ xs, SqL K H a xs) ∧ LcG (Itl K a) g tt te vs σ H Q := by
  obtain ⟨a, xs, rfl, n, h, l⟩ := hx.lst
  have np : a ≠ p := fun z => n (z ▸ w.mem)
  refine ⟨a, rfl, ⟨xs, .inl h⟩, q (Itl K a) (fun H' => SqL K H' a xs) xs ?_ (fun H' r => SqL.up r np (.inl h)) l⟩
  rw [← l.length]
  exact walk_list
theorem s_iLF (w : Wd p Z H) (hx : Dat K Z H (.list ds) x)
    (q : ∀ J G xs, Walk J ds.length G (YAt xs) → (∀ H', R p H H' → G H') → DatL K Z H ds xs → ForG J g tb D σ H) : ∃ a, x = .ref a ∧ (∃ xs, SqL K H a xs) ∧ ForG (Itl K a) g tb D σ H := by
  obtain ⟨a, xs, rfl, n, h, l⟩ := hx.lst
  have np : a ≠ p := fun z => n (z ▸ w.mem)
  refine ⟨a, rfl, ⟨xs, .inl h⟩, q (Itl K a) (fun H' => SqL K H' a xs) xs ?_ (fun H' r => SqL.up r np (.inl h)) l⟩
  rw [← l.length]
  exact walk_list
end
theorem DatL.at {K : PySem.W.Frag} {Z : List Addr} {H : Hp} {ds : List PyData} {xs : List V} {i : Nat} {d : PyData} {x : V} (l : DatL K Z H ds xs) (hd : ds[i]? = some d) (hx : xs[i]? = some x) : Dat K Z H d x := by
  obtain ⟨v, hv, h⟩ := l.get hd
  rw [hx] at hv
  cases hv
  exact h
theorem all_true (n : Nat) : ((List.range n).map fun _ => true).all id = true := by simp
theorem map_bools (n : Nat) (f : Nat → Bool) : (List.range n).map (fun i => PyData.bool (f i)) = ((List.range n).map f).map .bool := by
  rw [List.map_map]
  rfl
/-! ### lists of unlike lengths -/
section
variable {X : Cx} {K : PySem.W.Frag} {H : Hp} {Q : VK} {x y : V} {Z : List Addr} {ds es : List PyData}
def rNeL (K : PySem.W.Frag) : R2 := fun x y H Q => (∃ a b xs ys, x = .ref a ∧ y = .ref b ∧ Rd H a (.lst xs) ∧ Rd H b (.lst ys) ∧ xs.length ≠ ys.length ∧ Q (.bl true) H) ∨ rNeA K x y H Q
theorem op_neL {k : Nat} (hr : Room k X.A) : OpR X (compareOp .NotEq) (rNeL X.K) := by
  refine OpR.or ?_ (op_neA hr)
  intro pins s σ H x y v u Q I rx ry h
  obtain ⟨a, b, xs, ys, rfl, rfl, ha, hb, ne, q⟩ := h
  cases (show v = Value.ref a from rx)
  cases (show u = Value.ref b from ry)
  obtain ⟨its, n, r, hl, e⟩ := rd_lst I ha
  obtain ⟨its2, n2, r2, hl2, e2⟩ := rd_lst I hb
  have k1 : s.heap.IsList a its.toArray := ⟨_, e, rfl, n, rfl⟩
  have k2 : s.heap.IsList b its2.toArray := ⟨_, e2, rfl, n2, rfl⟩
  have hn : (its.toArray.size != its2.toArray.size) = true := by
    rw [List.size_toArray, List.size_toArray, ← r.length, ← r2.length]
    simpa using ne
  exact PySem.SeqAt.RcNeAt.lists_lengths k1 k2 hn hr.units0 _ _ _ _ ⟨.bl true, H, I, rfl, q⟩
theorem kx_neL {k : Nat} (h : X.K = K) (hr : Room k X.A) : OpR X (compareOp .NotEq) (rNeL K) := by subst h; exact op_neL hr
theorem s_neL (hx : Dat K Z H (.list ds) x) (hy : Dat K Z H (.list es) y) (n : ds.length ≠ es.length) (q : Q (.bl true) H) : rNeL K x y H Q := by
  obtain ⟨a, xs, rfl, _, ha, la⟩ := hx.lst
  obtain ⟨b, ys, rfl, _, hb, lb⟩ := hy.lst
  exact .inl ⟨a, b, xs, ys, rfl, rfl, ha, hb, by rw [la.length, lb.length]; exact n, q⟩
end
/-! ### lists and tuples alike -/
section
variable {K : PySem.W.Frag} {p : Addr} {Z : List Addr} {H : Hp} {Q : VK} {x : V} {d : PyData} {ds : List PyData} {ns : List Int}
theorem s_len_seq (hx : Dat K Z H d x) (hs : seqD d = some ds) (q : Q (.int ds.length) H) : rLen K [x] H Q := by
  cases d <;> cases hs
  · exact s_len_lst hx q
  · exact s_len_tup hx q
theorem s_list_seq (w : Wd p Z H) (hx : Dat K Z H d x) (hs : seqD d = some ds) (q : ∀ H' v, R p H H' → Dat K Z H' (.list ds) v → Q v H') : rList K [x] H Q := by
  cases d <;> cases hs
  · exact s_list_lst w hx q
  · exact s_list_tup w hx q
/-- the new list itself -/
theorem s_list_new (w : Wd p Z H) (hx : Dat K Z H d x) (hs : seqD d = some (ns.map .int)) (q : ∀ H' l, R p H H' → H l = none → H' l = some (.lst (ns.map V.int)) → Q (.ref l) H') : rList K [x] H Q := by
  obtain ⟨a, xs, rfl, l, hq⟩ := hx.seq hs
  have e := l.ints
  subst e
  exact ⟨a, _, rfl, hq.elim (fun h => .inl h.1) (fun h => .inr h.1), fun b hb => q _ b (R.new hb) hb upd_same⟩
theorem s_sorted_seq (w : Wd p Z H) (hx : Dat K Z H d x) (hs : seqD d = some (ns.map .int)) (q : ∀ H' l (ks : List Int), R p H H' → H l = none → ks.Perm ns → ks.Pairwise (· ≤ ·) → H' l = some (.lst (ks.map V.int)) → Q (.ref l) H') : rSorted K [x] H Q := by
  obtain ⟨a, xs, rfl, l, hq⟩ := hx.seq hs
  have e := l.ints
  subst e
  exact ⟨a, ns, rfl, hq.elim (fun h => .inl h.1) (fun h => .inr h.1), fun ks b hp hle hb => q _ b ks (R.new hb) hb hp hle upd_same⟩
end
end PC

set_option Elab.async false
set_option linter.all false
set_option maxRecDepth 100000
set_option maxHeartbeats 4000000
/-! PcM: plain laws of cells, masks, bits. -/
namespace PC
open PySem PySem.Spec PyProof.Rows L2
/-- an int, no bool, in the range -/
def intIn : PyData → Int → Int → Bool
  | .int i, lo, hi => decide (lo ≤ i) && decide (i ≤ hi)
  | _, _, _ => false
def intD : PyData → Option Int
  | .int i => some i
  | _ => none
def intsD (ds : List PyData) : List Int := ds.filterMap intD
def areCells (lo hi : Int) (ds : List PyData) : Bool := (ds.all fun d => intIn d lo hi) && decide (intsD ds).Nodup
def isort (ns : List Int) : List Int := ns.mergeSort fun a b => decide (a ≤ b)
/-- the cells, ascending -/
def cellsD (d : PyData) (s : Int) : Option (List Int) :=
  match seqD d with
  | none => none
  | some ds => if areCells 0 (s - 1) ds = true then some (isort (intsD ds)) else none
def tupI (ns : List Int) : PyData := .tuple (ns.map .int)
def lstI (ns : List Int) : PyData := .list (ns.map .int)
theorem intIn_no {d : PyData} {lo hi : Int} (h : isD d "int" = false) : intIn d lo hi = false := by
  cases d <;> first | rfl | simp [isD, tyD] at h
theorem intIn_no2 {d : PyData} {lo hi : Int} (h : isD d "bool" = true) : intIn d lo hi = false := by
  cases d <;> first | rfl | simp [isD, tyD] at h
theorem intIn_int {d : PyData} {lo hi : Int} (h : intIn d lo hi = true) : ∃ i, d = .int i ∧ lo ≤ i ∧ i ≤ hi := by
  cases d <;> simp [intIn] at h
  exact ⟨_, rfl, h⟩
theorem int_yes2 {d : PyData} (h : isD d "int" = true) (h2 : isD d "bool" = false) : ∃ i, d = .int i := by
  cases d <;> simp [isD, tyD] at h h2 <;> exact ⟨_, rfl⟩
theorem isort_perm (ns : List Int) : (isort ns).Perm ns := List.mergeSort_perm ns _
theorem isort_le (ns : List Int) : (isort ns).Pairwise (· ≤ ·) := by
  have h := List.pairwise_mergeSort (le := fun a b : Int => decide (a ≤ b)) (by intro a b c; simp; omega) (by intro a b; simp; omega) ns
  exact h.imp fun h => of_decide_eq_true h
theorem isort_is {ns ms : List Int} (p : ms.Perm ns) (h : ms.Pairwise (· ≤ ·)) : ms = isort ns :=
  (p.trans (isort_perm ns).symm).eq_of_pairwise (fun a b _ _ h1 h2 => Int.le_antisymm h1 h2) h (isort_le ns)
theorem intsOf {lo hi : Int} : ∀ {ds : List PyData}, (ds.all fun d => intIn d lo hi) = true → ds = (intsD ds).map .int
  | [], _ => rfl
  | d :: ds, h => by
    rw [List.all_cons, Bool.and_eq_true] at h
    obtain ⟨i, rfl, _⟩ := intIn_int h.1
    show _ = PyData.int i :: (intsD ds).map .int
    rw [← intsOf h.2]
theorem intsD_map (ns : List Int) : intsD (ns.map .int) = ns := by
  induction ns with
  | nil => rfl
  | cons n ns ih => show n :: intsD (ns.map .int) = n :: ns; rw [ih]
theorem datLints {K : PySem.W.Frag} {Z : List Addr} {H : Hp} : ∀ {ns : List Int} {xs : List V}, DatL K Z H (ns.map .int) xs → xs = ns.map V.int
  | [], xs, h => by simpa only [DatL, List.map_nil] using h
  | n :: ns, xs, h => by
    simp only [List.map_cons, DatL] at h
    obtain ⟨v, r, rfl, h1, h2⟩ := h
    have e : v = V.int n := by simpa only [Dat] using h1
    rw [e, datLints h2]
    rfl
theorem datL_int {K : PySem.W.Frag} {Z : List Addr} {H : Hp} : ∀ (ns : List Int), DatL K Z H (ns.map .int) (ns.map V.int)
  | [] => datL_nil
  | n :: ns => datL_cons dat_int (datL_int ns)
/-- neighbours in ascending order that differ: no value twice -/
theorem asc_nodup : ∀ {ns : List Int}, ns.Pairwise (· ≤ ·) → ((ns.zip (ns.drop 1)).all (fun y => decide (y.1 < y.2)) = true ↔ ns.Nodup)
  | [], _ => by simp
  | [a], _ => by simp
  | a :: b :: r, h => by
    have h2 := (List.pairwise_cons.mp h).2
    have ih := asc_nodup h2
    have hab : a ≤ b := (List.pairwise_cons.mp h).1 b List.mem_cons_self
    simp only [List.drop_succ_cons, List.drop_zero] at ih ⊢
    rw [List.zip_cons_cons, List.all_cons, Bool.and_eq_true, ih, List.nodup_cons (a := a), decide_eq_true_eq]
    constructor
    · rintro ⟨h1, h3⟩
      refine ⟨fun m => ?_, h3⟩
      rcases List.mem_cons.mp m with e | e
      · omega
      · have := (List.pairwise_cons.mp h2).1 a e
        omega
    · rintro ⟨h1, h3⟩
      refine ⟨?_, h3⟩
      rcases Int.lt_or_eq_of_le hab with q | q
      · exact q
      · exact absurd (by rw [q]; exact List.mem_cons_self) h1
theorem cellsD_no {d : PyData} {s : Int} (h : (isD d "list" || isD d "tuple") = false) : cellsD d s = none := by
  cases d <;> first | rfl | simp [isD, tyD] at h
theorem seq_yes {d : PyData} (h : (isD d "list" || isD d "tuple") = true) : ∃ ds, seqD d = some ds := by
  cases d <;> simp [isD, tyD] at h <;> exact ⟨_, rfl⟩
theorem cellsD_seq {d : PyData} {s : Int} {ds : List PyData} (h : seqD d = some ds) : cellsD d s = if areCells 0 (s - 1) ds = true then some (isort (intsD ds)) else none := by
  unfold cellsD
  rw [h]
theorem len_bulk : ∀ ds : List PyData, ds.length ≤ PyData.bulkAll ds
  | [] => Nat.zero_le _
  | d :: ds => by
    have := len_bulk ds
    simp only [PyData.bulkAll, List.length_cons]
    omega
theorem tame_len {d : PyData} {ds : List PyData} {k n : Nat} (t : Tame d k n) (h : seqD d = some ds) : ds.length ≤ n := by
  have a := len_bulk ds
  have b := t.bulk
  cases d <;> cases h <;> simp only [PyData.bulk] at b <;> omega
theorem range_bl {f : PyData → Bool} (ds : List PyData) (a : PyData) : (List.range ds.length).map (fun i => PyData.bool (f (ds.getD i a))) = (ds.map f).map .bool := by
  rw [List.map_map]
  exact map_getD ds a (fun d => PyData.bool (f d))
theorem zip_asc (ms : List Int) : (List.range (min ms.length (ms.drop 1).length)).map (fun i => PyData.bool (decide (ms.getD i 0 < ms.getD (i + 1) 0))) =
    ((ms.zip (ms.drop 1)).map fun y => decide (y.1 < y.2)).map .bool := by
  apply List.ext_getElem
  · simp
  · intro i h1 h2
    have a : i < ms.length := by simp at h1; omega
    have b : i + 1 < ms.length := by simp at h1; omega
    simp [List.getD_eq_getElem?_getD, a, b, Nat.add_comm 1 i]
theorem sli_1 (xs : List PyData) : sliD xs (some 1) none = xs.drop 1 := by
  unfold sliD HT.sIx
  cases xs with
  | nil => rfl
  | cons x r => simp
def maskI (ns : List Int) : Int := (ns.map fun n => (1 : Int) * 2 ^ n.toNat).sum
theorem s_sum {K : PySem.W.Frag} {Z : List Addr} {H : Hp} {Q : VK} {x : V} {ks : List Int} (h : Dat K Z H (.list (ks.map .int)) x) (q : Q (.int ks.sum) H) : rSum K [x] H Q := by
  obtain ⟨a, xs, rfl, _, ha, l⟩ := h.lst
  rw [l.ints] at ha
  exact ⟨a, ks, rfl, .inl ha, q⟩
theorem cells_some {d : PyData} {s : Int} {ns : List Int} (e : cellsD d s = some ns) : ∃ ds, seqD d = some ds ∧ areCells 0 (s - 1) ds = true ∧ isort (intsD ds) = ns := by
  cases h : seqD d with
  | none => unfold cellsD at e; rw [h] at e; cases e
  | some ds =>
    rw [cellsD_seq h] at e
    by_cases c : areCells 0 (s - 1) ds = true
    · rw [if_pos c] at e
      exact ⟨ds, rfl, c, Option.some.inj e⟩
    · rw [if_neg c] at e
      cases e
theorem ints_in {lo hi : Int} {ds : List PyData} (h : areCells lo hi ds = true) : ∀ n ∈ intsD ds, lo ≤ n ∧ n ≤ hi := by
  intro n hn
  rw [areCells, Bool.and_eq_true] at h
  have e := intsOf h.1
  have m : PyData.int n ∈ ds := by rw [e]; exact List.mem_map_of_mem hn
  have q := List.all_eq_true.mp h.1 _ m
  obtain ⟨i, e2, h1, h2⟩ := intIn_int q
  cases e2
  exact ⟨h1, h2⟩
/-- what cell_tuple gives: cells in the range, ascending -/
theorem cells_range {d : PyData} {s : Int} {ns : List Int} (e : cellsD d s = some ns) : (∀ n ∈ ns, 0 ≤ n ∧ n < s) ∧ ns.Pairwise (· < ·) := by
  obtain ⟨ds, h, c, rfl⟩ := cells_some e
  refine ⟨fun n hn => ?_, ?_⟩
  · have := ints_in c n ((isort_perm _).mem_iff.mp hn)
    omega
  · have nd : (isort (intsD ds)).Nodup := (isort_perm _).nodup_iff.mpr (of_decide_eq_true (Bool.and_eq_true_iff.mp c).2)
    exact ((isort_le (intsD ds)).and nd).imp fun h => by
      have h1 := h.1
      have h2 := h.2
      omega
theorem cells_len {d : PyData} {s : Int} {ns : List Int} {m : Nat} (e : cellsD d s = some ns) (h : ∀ ds, seqD d = some ds → ds.length ≤ m) : ns.length ≤ m := by
  obtain ⟨ds, hs, c, rfl⟩ := cells_some e
  rw [(isort_perm _).length_eq]
  refine Nat.le_trans ?_ (h ds hs)
  unfold intsD
  exact List.length_filterMap_le _ _
/-- the bits of a mask, ascending -/
def bitsL (m : Nat) : List Int := ((List.range 64).filter fun i => m.testBit i).map fun i => ((i : Nat) : Int)
theorem and_nn (a b : Nat) : Builtin.bitAnd (a : Int) (b : Int) = ((a &&& b : Nat) : Int) := by
  unfold Builtin.bitAnd
  rw [decide_eq_true (Int.natCast_nonneg a), decide_eq_true (Int.natCast_nonneg b)]
  simp
theorem bits_fit {m k : Nat} (h : m < 2 ^ k) : Builtin.Int.intBits (m : Int) ≤ k := PySem.intBits_le_iff.mpr (by simpa using h)
theorem bits_over {m : Nat} : m < 2 ^ Builtin.Int.intBits (m : Int) := by
  have h := (PySem.intBits_le_iff (m := Builtin.Int.intBits (m : Int)) (x := (m : Int))).mp (Nat.le_refl _)
  simpa using h
theorem bit_at (m i : Nat) : decide (Builtin.bitAnd ((m : Int) / 2 ^ i) 1 = 1) = m.testBit i := by
  have e : (m : Int) / 2 ^ i = ((m / 2 ^ i : Nat) : Int) := by
    rw [Int.natCast_ediv, Int.natCast_pow]
    rfl
  rw [e, show (1 : Int) = ((1 : Nat) : Int) from rfl, and_nn, Nat.testBit_eq_decide_div_mod_eq, Nat.and_one_is_mod]
  rw [Bool.eq_iff_iff, decide_eq_true_eq, decide_eq_true_eq]
  omega
theorem filter_bits {m n k : Nat} (h : m < 2 ^ n) (hk : n ≤ k) : (List.range k).filter (fun i => m.testBit i) = (List.range n).filter (fun i => m.testBit i) := by
  obtain ⟨j, rfl⟩ := Nat.exists_eq_add_of_le hk
  rw [List.range_add, List.filter_append]
  have e : ((List.range j).map (n + ·)).filter (fun i => m.testBit i) = [] := by
    rw [List.filter_eq_nil_iff]
    intro i hi
    obtain ⟨q, _, rfl⟩ := List.mem_map.mp hi
    have l : m < 2 ^ (n + q) := Nat.lt_of_lt_of_le h (Nat.pow_le_pow_right (by decide) (Nat.le_add_right _ _))
    rw [Nat.testBit_lt_two_pow l]
    decide
  rw [e, List.append_nil]
theorem maskI_cons (n : Int) (ns : List Int) : maskI (n :: ns) = 2 ^ n.toNat + maskI ns := by
  show 1 * 2 ^ n.toNat + maskI ns = _
  rw [Int.one_mul]
theorem maskI_app (a b : List Int) : maskI (a ++ b) = maskI a + maskI b := by
  unfold maskI
  rw [List.map_append, List.sum_append]
theorem maskI_perm {a b : List Int} (h : a.Perm b) : maskI a = maskI b := by
  induction h with
  | nil => rfl
  | cons x _ ih => rw [maskI_cons, maskI_cons, ih]
  | swap x y l => rw [maskI_cons, maskI_cons, maskI_cons, maskI_cons]; omega
  | trans _ _ h1 h2 => exact h1.trans h2
/-- each one less, 0 left out -/
def down (ns : List Int) : List Int := (ns.filter fun n => decide (0 < n)).map fun n => n - 1
theorem maskI_down : ∀ {ns : List Int}, (∀ n ∈ ns, 0 ≤ n) → ns.Nodup → maskI ns = (if (0 : Int) ∈ ns then 1 else 0) + 2 * maskI (down ns)
  | [], _, _ => by simp [maskI, down]
  | n :: ns, h, nd => by
    have ih := maskI_down (ns := ns) (fun m hm => h m (List.mem_cons_of_mem _ hm)) (List.nodup_cons.mp nd).2
    have h0 := h n List.mem_cons_self
    have nn := (List.nodup_cons.mp nd).1
    by_cases c : n = 0
    · subst c
      have e : down (0 :: ns) = down ns := by simp [down]
      rw [maskI_cons, e, ih, if_neg nn, if_pos List.mem_cons_self]
      show (1 : Int) + _ = _
      omega
    · have e : down (n :: ns) = (n - 1) :: down ns := by
        have q : decide (0 < n) = true := decide_eq_true (by omega)
        simp [down, q]
      have m0 : ((0 : Int) ∈ n :: ns) ↔ (0 : Int) ∈ ns := by
        rw [List.mem_cons]
        exact ⟨fun z => z.elim (fun z => absurd z.symm c) id, .inr⟩
      have p : (2 : Int) ^ n.toNat = 2 * 2 ^ (n - 1).toNat := by
        have : n.toNat = (n - 1).toNat + 1 := by omega
        rw [this, Int.pow_succ, Int.mul_comm]
      rw [maskI_cons, e, maskI_cons, ih, p]
      by_cases z : (0 : Int) ∈ ns
      · rw [if_pos z, if_pos (m0.mpr z)]; omega
      · rw [if_neg z, if_neg (fun y => z (m0.mp y))]; omega
theorem down_nodup {ns : List Int} (h : ns.Nodup) : (down ns).Nodup := by
  unfold down
  rw [List.nodup_iff_pairwise_ne, List.pairwise_map]
  exact (List.Pairwise.filter _ h).imp fun h => by omega
theorem down_mem {ns : List Int} {i : Int} (h : 0 ≤ i) : i ∈ down ns ↔ i + 1 ∈ ns := by
  unfold down
  rw [List.mem_map]
  constructor
  · rintro ⟨a, ha, rfl⟩
    have := (List.mem_filter.mp ha).1
    rwa [show a - 1 + 1 = a by omega]
  · intro m
    exact ⟨i + 1, List.mem_filter.mpr ⟨m, decide_eq_true (by omega)⟩, by omega⟩
theorem maskI_nn : ∀ ns : List Int, 0 ≤ maskI ns
  | [] => by decide
  | n :: ns => by
    have := maskI_nn ns
    have h : (0 : Int) < 2 ^ n.toNat := Int.pow_pos (by decide)
    rw [maskI_cons]
    omega
theorem mask_bit : ∀ (i : Nat) {ns : List Int}, (∀ n ∈ ns, 0 ≤ n) → ns.Nodup → (maskI ns).toNat.testBit i = decide ((i : Int) ∈ ns)
  | 0, ns, h, nd => by
    have e := maskI_down h nd
    have p := maskI_nn (down ns)
    rw [Nat.testBit_zero]
    by_cases z : (0 : Int) ∈ ns
    · rw [if_pos z] at e
      have : (maskI ns).toNat % 2 = 1 := by omega
      rw [this]
      simp [z]
    · rw [if_neg z] at e
      have : (maskI ns).toNat % 2 = 0 := by omega
      rw [this]
      simp [z]
  | i + 1, ns, h, nd => by
    have e := maskI_down h nd
    have p := maskI_nn (down ns)
    have ih := mask_bit i (ns := down ns) (fun n hn => by
      obtain ⟨a, ha, rfl⟩ := List.mem_map.mp hn
      have := of_decide_eq_true (List.mem_filter.mp ha).2
      omega) (down_nodup nd)
    have d : (maskI ns).toNat / 2 = (maskI (down ns)).toNat := by
      split at e <;> omega
    rw [Nat.testBit_succ, d, ih]
    rw [Bool.eq_iff_iff, decide_eq_true_eq, decide_eq_true_eq, down_mem (Int.natCast_nonneg i)]
    rw [show ((i + 1 : Nat) : Int) = (i : Int) + 1 by omega]
/-- the bits of a mask that are set are what it was made of -/
theorem bits_of_mask {m : Nat} {ns : List Int} (h : ∀ i < 64, m.testBit i = decide ((i : Int) ∈ ns)) (hr : ∀ n ∈ ns, 0 ≤ n ∧ n < 64) (ha : ns.Pairwise (· < ·)) : bitsL m = ns := by
  have asc : (bitsL m).Pairwise (· < ·) := by
    unfold bitsL
    rw [List.pairwise_map]
    exact (List.pairwise_lt_range.filter _).imp fun h => by omega
  have mem : ∀ x, x ∈ bitsL m ↔ x ∈ ns := by
    intro x
    unfold bitsL
    rw [List.mem_map]
    constructor
    · rintro ⟨i, hi, rfl⟩
      have q := List.mem_filter.mp hi
      rw [h i (List.mem_range.mp q.1)] at q
      exact of_decide_eq_true q.2
    · intro hx
      have := hr x hx
      refine ⟨x.toNat, List.mem_filter.mpr ⟨List.mem_range.mpr (by omega), ?_⟩, by omega⟩
      rw [h _ (by omega)]
      refine decide_eq_true ?_
      rwa [show ((x.toNat : Nat) : Int) = x by omega]
  have pm : (bitsL m).Perm ns := by
    refine (List.perm_ext_iff_of_nodup ?_ ?_).mpr mem
    · exact asc.imp fun h => by omega
    · exact ha.imp fun h => by omega
  exact pm.eq_of_pairwise (fun a b _ _ h1 h2 => by omega) asc ha
theorem mask_bits {m : Nat} (h : m < 2 ^ 64) : (maskI (bitsL m)).toNat = m := by
  apply Nat.eq_of_testBit_eq
  intro i
  have nn : ∀ n ∈ bitsL m, 0 ≤ n := fun n hn => by
    obtain ⟨j, _, rfl⟩ := List.mem_map.mp hn
    omega
  have nd : (bitsL m).Nodup := by
    unfold bitsL
    rw [List.nodup_iff_pairwise_ne, List.pairwise_map]
    exact (List.pairwise_lt_range.filter _).imp fun h => by omega
  rw [mask_bit i nn nd, Bool.eq_iff_iff, decide_eq_true_eq]
  unfold bitsL
  rw [List.mem_map]
  constructor
  · rintro ⟨j, hj, e⟩
    have : j = i := by omega
    subst this
    exact (List.mem_filter.mp hj).2
  · intro t
    refine ⟨i, List.mem_filter.mpr ⟨List.mem_range.mpr ?_, t⟩, rfl⟩
    by_cases c : i < 64
    · exact c
    · have l : m < 2 ^ i := Nat.lt_of_lt_of_le h (Nat.pow_le_pow_right (by decide) (by omega))
      rw [Nat.testBit_lt_two_pow l] at t
      cases t
theorem xor_and_or : ∀ a b : Nat, (a ^^^ b) + (a &&& b) = a ||| b := by
  intro a
  induction a using Nat.strongRecOn with
  | ind a ih =>
    intro b
    by_cases h : a = 0
    · subst h
      simp
    · have i := ih (a / 2) (by omega) (b / 2)
      have x1 := Nat.xor_div_two (a := a) (b := b)
      have x2 := Nat.and_div_two (a := a) (b := b)
      have x3 := Nat.or_div_two (a := a) (b := b)
      have y1 : (a ^^^ b) % 2 = (a % 2 + b % 2) % 2 := by
        have e : (a ^^^ b) % 2 = 1 ↔ ¬ (a % 2 = 1 ↔ b % 2 = 1) := Nat.xor_mod_two_eq_one
        omega
      have y2 : (a &&& b) % 2 = 1 ↔ a % 2 = 1 ∧ b % 2 = 1 := Nat.and_mod_two_eq_one
      have y3 : (a ||| b) % 2 = 1 ↔ a % 2 = 1 ∨ b % 2 = 1 := Nat.or_mod_two_eq_one
      omega
theorem xor_nn (a b : Nat) : Builtin.bitXor (a : Int) (b : Int) = ((a ^^^ b : Nat) : Int) := by
  unfold Builtin.bitXor
  have o : Builtin.bitOr (a : Int) (b : Int) = ((a ||| b : Nat) : Int) := by
    have h := bitOr_nn (Int.natCast_nonneg a) (Int.natCast_nonneg b)
    simpa using h
  rw [o, and_nn]
  have := xor_and_or a b
  omega
theorem or_one {k : Nat} (h : k.testBit 0 = true) : k ||| 1 = k := by
  apply Nat.eq_of_testBit_eq
  intro i
  rw [Nat.testBit_or]
  cases i with
  | zero => rw [h]; rfl
  | succ i => simp [Nat.testBit_succ]
def pop (n : Nat) : Nat := if h : n = 0 then 0 else n % 2 + pop (n / 2)
termination_by n
decreasing_by exact Nat.div_lt_self (Nat.pos_of_ne_zero h) (by decide)
theorem pop_zero : pop 0 = 0 := by rw [pop]; rfl
theorem pop_step (n : Nat) : pop n = n % 2 + pop (n / 2) := by
  by_cases h : n = 0
  · subst h
    rw [pop_zero]
  · rw [pop, dif_neg h]
theorem and_even (q : Nat) (h : 0 < q) : (2 * q) &&& (2 * q - 1) = 2 * (q &&& (q - 1)) := by
  apply Nat.eq_of_testBit_eq
  intro i
  have e : 2 * q - 1 = 2 * (q - 1) + 1 := by omega
  cases i with
  | zero =>
    rw [Nat.testBit_and]
    simp [Nat.testBit_zero]
  | succ i =>
    rw [Nat.testBit_and, Nat.testBit_succ, Nat.testBit_succ, Nat.testBit_succ, e]
    rw [show 2 * q / 2 = q by omega, show (2 * (q - 1) + 1) / 2 = q - 1 by omega, show 2 * (q &&& (q - 1)) / 2 = q &&& (q - 1) by omega, Nat.testBit_and]
theorem and_odd (q : Nat) : (2 * q + 1) &&& (2 * q) = 2 * q := by
  apply Nat.eq_of_testBit_eq
  intro i
  cases i with
  | zero =>
    rw [Nat.testBit_and]
    simp [Nat.testBit_zero]
  | succ i =>
    rw [Nat.testBit_and, Nat.testBit_succ, Nat.testBit_succ]
    rw [show (2 * q + 1) / 2 = q by omega, show 2 * q / 2 = q by omega, Bool.and_self]
theorem pop_less : ∀ (n : Nat), 0 < n → pop (n &&& (n - 1)) + 1 = pop n := by
  intro n
  induction n using Nat.strongRecOn with
  | ind n ih =>
    intro h
    rcases Nat.mod_two_eq_zero_or_one n with e | e
    · have hq : n = 2 * (n / 2) := by omega
      have q0 : 0 < n / 2 := by omega
      have i := ih (n / 2) (by omega) q0
      rw [hq, and_even _ q0, pop_step (2 * (n / 2)), pop_step (2 * (n / 2 &&& (n / 2 - 1)))]
      rw [show 2 * (n / 2) % 2 = 0 by omega, show 2 * (n / 2) / 2 = n / 2 by omega, show 2 * (n / 2 &&& (n / 2 - 1)) % 2 = 0 by omega, show 2 * (n / 2 &&& (n / 2 - 1)) / 2 = (n / 2 &&& (n / 2 - 1)) by omega]
      omega
    · have hq : n = 2 * (n / 2) + 1 := by omega
      rw [hq, show 2 * (n / 2) + 1 - 1 = 2 * (n / 2) by omega, and_odd, pop_step (2 * (n / 2) + 1), pop_step (2 * (n / 2))]
      rw [show 2 * (n / 2) % 2 = 0 by omega, show 2 * (n / 2) / 2 = n / 2 by omega, show (2 * (n / 2) + 1) % 2 = 1 by omega, show (2 * (n / 2) + 1) / 2 = n / 2 by omega]
      omega
/-- an odd number of bits -/
def oddN (m : Nat) : Bool := decide (pop m % 2 = 1)
def bitI (m i : Nat) : Int := if m.testBit i then 1 else 0
def bitsOf (n m : Nat) : List Int := (List.range n).map (bitI m)
theorem bitsOf_len {n m : Nat} : (bitsOf n m).length = n := by simp [bitsOf]
theorem bitsOf_get {n m i : Nat} (h : i < n) : (bitsOf n m)[i]? = some (bitI m i) := by simp [bitsOf, h]
theorem bitsOf_01 {n m : Nat} {b : Int} (h : b ∈ bitsOf n m) : b = 0 ∨ b = 1 := by
  obtain ⟨i, _, rfl⟩ := List.mem_map.mp h
  unfold bitI
  split <;> simp
theorem bitI_01 (m i : Nat) : bitI m i = 0 ∨ bitI m i = 1 := by
  unfold bitI
  split <;> simp
theorem bitI_one {m i : Nat} : bitI m i = 1 ↔ m.testBit i = true := by
  unfold bitI
  split <;> simp_all
theorem exists_mask : ∀ bs : List Int, (∀ b ∈ bs, b = 0 ∨ b = 1) → ∃ m, m < 2 ^ bs.length ∧ bs = bitsOf bs.length m
  | [], _ => ⟨0, by decide, rfl⟩
  | b :: bs, h => by
    obtain ⟨m, hm, e⟩ := exists_mask bs fun c hc => h c (List.mem_cons_of_mem _ hc)
    refine ⟨b.toNat + 2 * m, ?_, ?_⟩
    · rw [List.length_cons, Nat.pow_succ]
      rcases h b List.mem_cons_self with rfl | rfl <;> simp <;> omega
    · rw [List.length_cons, bitsOf, List.range_succ_eq_map, List.map_cons, List.map_map]
      congr 1
      · rcases h b List.mem_cons_self with rfl | rfl <;> simp [bitI, Nat.testBit_zero] <;> omega
      · conv => lhs; rw [e]
        unfold bitsOf
        apply List.map_congr_left
        intro i _
        simp only [Function.comp_def, bitI, Nat.succ_eq_add_one]
        rw [Nat.testBit_succ]
        have : (b.toNat + 2 * m) / 2 = m := by
          rcases h b List.mem_cons_self with rfl | rfl <;> simp <;> omega
        rw [this]
def bitS (m i : Nat) : Str := toString (bitI m i)
def boardText (n m : Nat) : Str := Txt.join "" ((List.range n).map fun i => bitS m i)
theorem bitS_len (m i : Nat) : (bitS m i).length = 1 := by
  unfold bitS
  rcases bitI_01 m i with h | h <;> (rw [h]; decide +kernel)
theorem bitS_sum (n m : Nat) : (((List.range n).map fun i => bitS m i).map (·.length)).sum = n := by
  rw [sum_ones]
  · simp
  · intro y hy
    obtain ⟨i, _, rfl⟩ := List.mem_map.mp hy
    exact bitS_len m i
theorem boardText_len (n m : Nat) : (boardText n m).length = n := by
  unfold boardText
  rw [len_join, bitS_sum]
theorem bit_and1 (k : Nat) : decide (Builtin.bitAnd (k : Int) 1 = 1) = k.testBit 0 := by
  have h := bit_at k 0
  simpa using h
theorem shr_and (m i : Nat) : Builtin.bitAnd ((m : Int) / 2 ^ i) 1 = bitI m i := by
  have h := bit_at m i
  have e : (m : Int) / 2 ^ i = ((m / 2 ^ i : Nat) : Int) := by
    rw [Int.natCast_ediv, Int.natCast_pow]
    rfl
  rw [e, show (1 : Int) = ((1 : Nat) : Int) from rfl, and_nn] at h ⊢
  have l : m / 2 ^ i &&& 1 < 2 := by
    rw [Nat.and_one_is_mod]
    omega
  unfold bitI
  split
  · rename_i c
    rw [c] at h
    have := of_decide_eq_true h
    exact this
  · rename_i c
    have c' : m.testBit i = false := by simpa using c
    rw [c'] at h
    have := of_decide_eq_false h
    omega
theorem bitsOf_odd {n m : Nat} {b : Int} {r : List Int} (h : bitsOf n m = b :: r) : (b = 1 ↔ m.testBit 0 = true) := by
  cases n with
  | zero => cases h
  | succ n =>
    rw [bitsOf, List.range_succ_eq_map, List.map_cons] at h
    have := (List.cons.inj h).1
    rw [← this, bitI_one]
theorem bits_lt {n m : Nat} (h : m < 2 ^ n) (hn : n ≤ 64) : bitsL m = ((List.range n).filter fun i => m.testBit i).map fun i => ((i : Nat) : Int) := by
  unfold bitsL
  rw [filter_bits h hn]
theorem bits_mem {m : Nat} {n : Int} (h : n ∈ bitsL m) : 0 ≤ n ∧ n < 64 ∧ m.testBit n.toNat = true := by
  obtain ⟨j, hj, rfl⟩ := List.mem_map.mp h
  have q := List.mem_filter.mp hj
  have := List.mem_range.mp q.1
  exact ⟨by omega, by omega, by simpa using q.2⟩
theorem bits_below {m k : Nat} {n : Int} (hm : m < 2 ^ k) (h : n ∈ bitsL m) : 0 ≤ n ∧ n < k := by
  obtain ⟨h0, _, t⟩ := bits_mem h
  refine ⟨h0, ?_⟩
  by_cases c : n.toNat < k
  · omega
  · rw [Nat.testBit_lt_two_pow (Nat.lt_of_lt_of_le hm (Nat.pow_le_pow_right (by decide) (by omega)))] at t
    cases t
theorem bits_asc (m : Nat) : (bitsL m).Pairwise (· < ·) := by
  unfold bitsL
  rw [List.pairwise_map]
  exact (List.pairwise_lt_range.filter _).imp fun h => by omega
theorem bits_len (m : Nat) : (bitsL m).length ≤ 64 := by
  unfold bitsL
  rw [List.length_map]
  exact Nat.le_trans (List.length_filter_le _ _) (by simp)
theorem cells_asc {ns : List Int} {s : Int} (h : ∀ n ∈ ns, 0 ≤ n ∧ n < s) (ha : ns.Pairwise (· < ·)) : cellsD (tupI ns) s = some ns ∧ cellsD (lstI ns) s = some ns := by
  have nd : ns.Nodup := ha.imp fun h => by omega
  have e : areCells 0 (s - 1) (ns.map PyData.int) = true := by
    rw [areCells, Bool.and_eq_true, intsD_map, decide_eq_true_eq]
    refine ⟨List.all_eq_true.mpr fun d hd => ?_, nd⟩
    obtain ⟨n, hn, rfl⟩ := List.mem_map.mp hd
    have := h n hn
    simp only [intIn, Bool.and_eq_true, decide_eq_true_eq]
    omega
  have i : isort ns = ns := (isort_is (List.Perm.refl ns) (ha.imp fun h => by omega)).symm
  refine ⟨?_, ?_⟩
  · rw [tupI, cellsD_seq (ds := ns.map PyData.int) rfl, if_pos e, intsD_map, i]
  · rw [lstI, cellsD_seq (ds := ns.map PyData.int) rfl, if_pos e, intsD_map, i]
theorem cells_perm {ns : List Int} {s : Int} (h : ∀ n ∈ ns, 0 ≤ n ∧ n < s) (nd : ns.Nodup) : cellsD (tupI ns) s = some (isort ns) ∧ cellsD (lstI ns) s = some (isort ns) := by
  have e : areCells 0 (s - 1) (ns.map PyData.int) = true := by
    rw [areCells, Bool.and_eq_true, intsD_map, decide_eq_true_eq]
    refine ⟨List.all_eq_true.mpr fun d hd => ?_, nd⟩
    obtain ⟨n, hn, rfl⟩ := List.mem_map.mp hd
    have := h n hn
    simp only [intIn, Bool.and_eq_true, decide_eq_true_eq]
    omega
  refine ⟨?_, ?_⟩
  · rw [tupI, cellsD_seq (ds := ns.map PyData.int) rfl, if_pos e, intsD_map]
  · rw [lstI, cellsD_seq (ds := ns.map PyData.int) rfl, if_pos e, intsD_map]
theorem mask_lt {ns : List Int} {k : Nat} (h : ∀ n ∈ ns, 0 ≤ n ∧ n < k) (nd : ns.Nodup) : (maskI ns).toNat < 2 ^ k := by
  refine Nat.lt_pow_two_of_testBit _ fun i hi => ?_
  rw [mask_bit i (fun n hn => (h n hn).1) nd]
  refine decide_eq_false fun m => ?_
  have := h _ m
  omega
theorem tameL_ints' {ns : List Int} {k : Nat} (h : ∀ n ∈ ns, n.natAbs < 2 ^ 250) (hl : ns.length ≤ k) : TameL (ns.map .int) 1 k := by
  refine (tameL_of (k := 1) (m := 0) fun d hd => ?_).mono (Nat.le_refl _) (by simpa using hl)
  obtain ⟨n, hn, rfl⟩ := List.mem_map.mp hd
  exact tame_int (h n hn)
theorem tame_lstI {ns : List Int} {k : Nat} (h : ∀ n ∈ ns, n.natAbs < 2 ^ 250) (hl : ns.length ≤ k) : Tame (lstI ns) 2 k := tame_lst (tameL_ints' h hl)
theorem tame_tupI' {ns : List Int} {k : Nat} (h : ∀ n ∈ ns, n.natAbs < 2 ^ 250) (hl : ns.length ≤ k) : Tame (tupI ns) 2 k := tame_tup (tameL_ints' h hl)
theorem tame_bits (m : Nat) : Tame (tupI (bitsL m)) 2 64 := tame_tupI' (fun n hn => by have := bits_mem hn; omega) (bits_len m)
def spotsD (d : PyData) (lo w : Int) : Bool :=
  match seqD d with
  | none => false
  | some ds => areCells lo (w - 1) ds
theorem spotsD_no {d : PyData} {lo w : Int} (h : (isD d "list" || isD d "tuple") = false) : spotsD d lo w = false := by
  cases d <;> first | rfl | exact absurd h (by simp [isD, tyD])
theorem spotsD_seq {d : PyData} {lo w : Int} {ds : List PyData} (h : seqD d = some ds) : spotsD d lo w = areCells lo (w - 1) ds := by
  unfold spotsD
  rw [h]
theorem all_new (ns : List Int) : ((List.range ns.length).all fun i => !decide (ns.getD i 0 ∈ ns.take i)) = decide ns.Nodup := by
  rw [Bool.eq_iff_iff, List.all_eq_true, decide_eq_true_eq, List.nodup_iff_pairwise_ne, List.pairwise_iff_getElem]
  constructor
  · intro h i j hi hj hij e
    have q := h j (List.mem_range.mpr hj)
    have ej : ns.getD j 0 = ns[j] := by simp [hj]
    rw [ej, Bool.not_eq_true', decide_eq_false_iff_not] at q
    refine q ?_
    rw [← e]
    exact List.mem_take_iff_getElem.mpr ⟨i, by omega, rfl⟩
  · intro h j hj
    have hj' := List.mem_range.mp hj
    have ej : ns.getD j 0 = ns[j] := by simp [hj']
    rw [ej, Bool.not_eq_true', decide_eq_false_iff_not]
    intro m
    obtain ⟨i, hi, e⟩ := List.mem_take_iff_getElem.mp m
    exact h i j (by omega) hj' (by omega) e
theorem rgV_ints (a b : Int) : rgV a b = ((List.range (b - a).toNat).map fun i => a + (i : Nat)).map V.int := by
  unfold rgV
  rw [List.map_map]
  rfl
theorem rg_mem {a b n : Int} (h : n ∈ (List.range (b - a).toNat).map fun i => a + ((i : Nat) : Int)) : a ≤ n ∧ n < b := by
  obtain ⟨i, hi, rfl⟩ := List.mem_map.mp h
  have := List.mem_range.mp hi
  omega
theorem rg_lt {a b : Int} : ((List.range (b - a).toNat).map fun i => a + ((i : Nat) : Int)).Pairwise (· < ·) := by
  rw [List.pairwise_map]
  exact List.pairwise_lt_range.imp fun h => by omega
theorem sli_to (xs : List PyData) (i : Nat) : sliD xs none (some (i : Int)) = xs.take i := by
  unfold sliD
  rw [HT.sIx_none, HT.sIx_nat, List.drop_zero, Nat.sub_zero]
  by_cases h : i ≤ xs.length
  · rw [Nat.min_eq_left h]
  · rw [Nat.min_eq_right (by omega), List.take_of_length_le (Nat.le_refl _), List.take_of_length_le (by omega)]
theorem e20 : (10 : Int) ^ Int.toNat 20 = 100000000000000000000 := by decide +kernel
theorem e9 : (10 : Int) ^ Int.toNat 9 = 1000000000 := by decide +kernel
def vInt : V → Option Int
  | .int i => some i
  | _ => none
theorem vInt_map (ns : List Int) : (ns.map V.int).filterMap vInt = ns := by
  induction ns with
  | nil => rfl
  | cons n ns ih =>
    rw [List.map_cons, List.filterMap_cons]
    show n :: _ = n :: ns
    rw [ih]
theorem perm_ints {ys : List V} {ns : List Int} (h : ys.Perm (ns.map V.int)) : ∃ ms : List Int, ms.Perm ns ∧ ys = ms.map V.int := by
  refine ⟨ys.filterMap vInt, ?_, ?_⟩
  · have q := h.filterMap vInt
    rw [vInt_map] at q
    exact q
  · have all : ∀ y ∈ ys, ∃ i, y = V.int i := fun y hy => by
      obtain ⟨i, _, e⟩ := List.mem_map.mp (h.mem_iff.mp hy)
      exact ⟨i, e.symm⟩
    clear h
    induction ys with
    | nil => rfl
    | cons y r ih =>
      obtain ⟨i, rfl⟩ := all y List.mem_cons_self
      show V.int i :: r = V.int i :: (r.filterMap vInt).map V.int
      rw [← ih fun z hz => all z (List.mem_cons_of_mem _ hz)]
theorem asc_len : ∀ {ns : List Int} {l w : Int}, (∀ n ∈ ns, l ≤ n ∧ n < w) → ns.Pairwise (· < ·) → l ≤ w → (ns.length : Int) ≤ w - l
  | [], l, w, _, _, h => by show (0 : Int) ≤ w - l; omega
  | n :: ns, l, w, h, hp, _ => by
    have h1 := h n List.mem_cons_self
    have p1 := (List.pairwise_cons.mp hp).1
    have ih := asc_len (ns := ns) (l := n + 1) (w := w) (fun m hm => ⟨by have := p1 m hm; omega, (h m (List.mem_cons_of_mem _ hm)).2⟩) (List.pairwise_cons.mp hp).2 (by omega)
    rw [List.length_cons]
    omega
theorem tameL_ints : ∀ {ns : List Int}, (∀ n ∈ ns, n.natAbs < 2 ^ 250) → TameL (ns.map .int) 1 ns.length
  | [], _ => tameL_nil.mono (Nat.zero_le 1) (Nat.zero_le _)
  | n :: ns, h => by
    have ih := tameL_ints fun m hm => h m (List.mem_cons_of_mem _ hm)
    exact (tameL_cons (tame_int (h n List.mem_cons_self)) ih).mono (Nat.le_refl _) (by simp <;> omega)
theorem nodict_ints (ns : List Int) : PyData.hasDict (lstI ns) = false := by
  have q : ∀ ns : List Int, PyData.hasDictAll (ns.map .int) = false := by
    intro ns
    induction ns with
    | nil => rfl
    | cons n ns ih =>
      simp only [List.map_cons, PyData.hasDictAll, PyData.hasDict, ih, Bool.or_self]
  simpa only [lstI, PyData.hasDict] using q ns
theorem eqv_nil (ds : List PyData) : PyData.eqv (.list ds) (.list []) = ds.isEmpty := by
  cases ds <;> simp [PyData.eqv, PyData.eqvAll]
theorem tame_bools (n m : Nat) (hn : n ≤ 100) : Tame (.list ((List.range n).map fun i => .bool (m.testBit i))) 40 50000 := by
  refine (tame_lst (tameL_of (k := 1) (m := 0) fun d hd => ?_)).mono (by decide) (by simp; omega)
  obtain ⟨i, _, rfl⟩ := List.mem_map.mp hd
  exact tame_bool
/-- the sum of the bits at some places -/
def bitSum (m : Nat) (ns : List Int) : Int := (ns.map fun i => bitI m i.toNat).sum
theorem pop_filter : ∀ (N k : Nat), k < 2 ^ N → pop k = ((List.range N).filter fun i => k.testBit i).length
  | 0, k, h => by
    have : k = 0 := by omega
    subst this
    rw [pop_zero]
    rfl
  | N + 1, k, h => by
    have ih := pop_filter N (k / 2) (by rw [Nat.pow_succ] at h; omega)
    rw [pop_step, ih, List.range_succ_eq_map, List.filter_cons, List.filter_map, Nat.testBit_zero]
    have e : ((fun i => k.testBit i) ∘ Nat.succ) = fun i => (k / 2).testBit i := by
      funext i
      rw [Function.comp_apply, Nat.succ_eq_add_one, Nat.testBit_succ]
    rw [e]
    rcases Nat.mod_two_eq_zero_or_one k with c | c <;> simp [c] <;> omega
theorem pop_and {m : Nat} {ns : List Int} (h : ∀ n ∈ ns, 0 ≤ n ∧ n < 64) (nd : ns.Nodup) :
    pop ((maskI ns).toNat &&& m) = (ns.filter fun i => m.testBit i.toNat).length := by
  have lt : (maskI ns).toNat &&& m < 2 ^ 64 := Nat.lt_of_le_of_lt Nat.and_le_left (mask_lt (k := 64) h nd)
  rw [pop_filter 64 _ lt]
  have pm : (((List.range 64).filter fun i => ((maskI ns).toNat &&& m).testBit i).map fun i => ((i : Nat) : Int)).Perm (ns.filter fun i => m.testBit i.toNat) := by
    refine (List.perm_ext_iff_of_nodup ?_ ?_).mpr ?_
    · rw [List.nodup_iff_pairwise_ne, List.pairwise_map]
      exact (List.pairwise_lt_range.filter _).imp fun h => by omega
    · exact nd.filter _
    · intro a
      rw [List.mem_map, List.mem_filter]
      constructor
      · rintro ⟨i, hi, rfl⟩
        have q := (List.mem_filter.mp hi).2
        rw [Nat.testBit_and, Bool.and_eq_true, mask_bit i (fun n hn => (h n hn).1) nd] at q
        exact ⟨of_decide_eq_true q.1, by rw [Int.toNat_natCast]; exact q.2⟩
      · rintro ⟨ha, hb⟩
        have ra := h a ha
        refine ⟨a.toNat, List.mem_filter.mpr ⟨List.mem_range.mpr (by omega), ?_⟩, by omega⟩
        rw [Nat.testBit_and, Bool.and_eq_true, mask_bit _ (fun n hn => (h n hn).1) nd]
        exact ⟨decide_eq_true (by rwa [show ((a.toNat : Nat) : Int) = a by omega]), hb⟩
  have := pm.length_eq
  rw [List.length_map] at this
  exact this
theorem bitSum_filter (m : Nat) : ∀ ns : List Int, bitSum m ns = ((ns.filter fun i => m.testBit i.toNat).length : Nat)
  | [] => rfl
  | n :: ns => by
    have ih := bitSum_filter m ns
    show bitI m n.toNat + bitSum m ns = _
    rw [ih, List.filter_cons]
    unfold bitI
    split <;> simp <;> omega
theorem parity_and {m : Nat} {ns : List Int} (h : ∀ n ∈ ns, 0 ≤ n ∧ n < 64) (nd : ns.Nodup) :
    (if oddN ((maskI ns).toNat &&& m) then (1 : Int) else 0) = bitSum m ns % 2 := by
  unfold oddN
  rw [pop_and h nd, bitSum_filter]
  rcases Nat.mod_two_eq_zero_or_one (ns.filter fun i => m.testBit i.toNat).length with c | c <;> simp [c] <;> omega
theorem bitSum_perm {m : Nat} {a b : List Int} (h : a.Perm b) : bitSum m a = bitSum m b := by
  unfold bitSum
  induction h with
  | nil => rfl
  | cons x _ ih => simp only [List.map_cons, List.sum_cons]; omega
  | swap x y l => simp only [List.map_cons, List.sum_cons]; omega
  | trans _ _ h1 h2 => exact h1.trans h2
theorem isort_pm (ns : List Int) : (isort ns).Perm ns := isort_perm ns
/-- the bits behind a change -/
theorem bits_xor {n m : Nat} {ns : List Int} (h : ∀ n ∈ ns, 0 ≤ n) (nd : ns.Nodup) :
    (List.range n).map (fun i => if ((i : Nat) : Int) ∈ ns then 1 - bitI m i else bitI m i) = bitsOf n (m ^^^ (maskI ns).toNat) := by
  unfold bitsOf
  apply List.map_congr_left
  intro i _
  unfold bitI
  rw [Nat.testBit_xor, mask_bit i h nd]
  by_cases c : ((i : Nat) : Int) ∈ ns <;> cases m.testBit i <;> simp [c]
theorem nat_of {x k : Int} (h1 : 1 ≤ x) (h2 : x ≤ k) : ∃ n : Nat, PyData.int x = .int n ∧ 1 ≤ n ∧ (n : Int) ≤ k :=
  ⟨x.toNat, by congr 1; omega, by omega, by omega⟩
theorem tame_bitsOf (n m : Nat) (hn : n ≤ 100) : Tame (lstI (bitsOf n m)) 2 100 :=
  tame_lstI (fun b hb => by rcases bitsOf_01 hb with rfl | rfl <;> decide) (by rw [bitsOf_len]; exact hn)
theorem sli_from (xs : List PyData) (i : Nat) : sliD xs (some (i : Int)) none = xs.drop i := by
  unfold sliD
  rw [HT.sIx_none, HT.sIx_nat]
  by_cases h : i ≤ xs.length
  · rw [Nat.min_eq_left h, List.take_of_length_le (by simp)]
  · rw [Nat.min_eq_right (by omega), List.drop_eq_nil_of_le (Nat.le_refl _), List.drop_eq_nil_of_le (by omega), List.take_nil]
theorem bitsL_zero {m : Nat} (h : m.testBit 0 = true) : ∃ t, bitsL m = 0 :: t := by
  unfold bitsL
  rw [List.range_succ_eq_map, List.filter_cons, h]
  exact ⟨_, rfl⟩
theorem mem_bitsL {m i : Nat} (h : m < 2 ^ 64) : ((i : Nat) : Int) ∈ bitsL m ↔ m.testBit i = true := by
  constructor
  · intro k
    have := (bits_mem k).2.2
    rwa [Int.toNat_natCast] at this
  · intro k
    unfold bitsL
    refine List.mem_map.mpr ⟨i, List.mem_filter.mpr ⟨List.mem_range.mpr ?_, k⟩, rfl⟩
    by_cases c : i < 64
    · exact c
    · rw [Nat.testBit_lt_two_pow (Nat.lt_of_lt_of_le h (Nat.pow_le_pow_right (by decide) (by omega)))] at k
      cases k
/-- cell 0 may be left out -/
theorem mask_drop {m j : Nat} {ks : List Int} (h : m < 2 ^ 64) (od : m.testBit 0 = true) (pn : ks.Perm ((bitsL m).drop j)) (hj : j ≤ 1) : (maskI ks).toNat ||| 1 = m := by
  obtain ⟨t, et⟩ := bitsL_zero od
  have nn : ∀ k ∈ ks, 0 ≤ k := fun k hk => (bits_mem (List.mem_of_mem_drop (pn.mem_iff.mp hk))).1
  have nd : ks.Nodup := pn.nodup_iff.mpr (List.Pairwise.imp (fun h => by omega) ((bits_asc m).sublist (List.drop_sublist j _)))
  apply Nat.eq_of_testBit_eq
  intro i
  rw [Nat.testBit_or, mask_bit i nn nd]
  cases i with
  | zero => rw [od]; simp
  | succ i =>
    rw [Nat.testBit_succ, show (1 : Nat) / 2 = 0 from rfl, Nat.zero_testBit, Bool.or_false, Bool.eq_iff_iff, decide_eq_true_eq, ← mem_bitsL h, pn.mem_iff]
    rcases (by omega : j = 0 ∨ j = 1) with rfl | rfl
    · simp
    · rw [et, List.drop_one, List.tail_cons, List.mem_cons]
      exact ⟨.inr, fun k => k.elim (fun k => absurd k (by omega)) id⟩
theorem bits_one {n : Nat} (h : 1 ≤ n) : (1 : Int) :: List.replicate (n - 1) 0 = bitsOf n 1 := by
  obtain ⟨k, rfl⟩ := Nat.exists_eq_add_of_le' h
  rw [bitsOf, List.range_succ_eq_map, List.map_cons, List.map_map, Nat.add_sub_cancel]
  congr 1
  symm
  rw [List.eq_replicate_iff]
  refine ⟨by simp, fun b hb => ?_⟩
  obtain ⟨i, _, rfl⟩ := List.mem_map.mp hb
  unfold bitI
  rw [Function.comp_apply, Nat.succ_eq_add_one, Nat.testBit_succ]
  simp
theorem flat_zeros (k : Nat) : (List.replicate k [V.int 0]).flatten = (List.replicate k (0 : Int)).map V.int := by
  rw [List.map_replicate]
  induction k with
  | zero => rfl
  | succ k ih => rw [List.replicate_succ, List.flatten_cons, ih, List.replicate_succ]; rfl
/-- a flip's masks -/
structure FlipOk (t g : Nat) : Prop where
  lt : t < 2 ^ 40
  lg : g < 2 ^ 40
  fix : g.testBit 0 = false
  ev : oddN (t &&& g) = false
/-- what a flip does to a mask -/
def afterM (m t g : Nat) : Nat := if oddN (m &&& t) then m ^^^ g else m
theorem afterM_lt {m t g n : Nat} (h : m < 2 ^ n) (hg : g < 2 ^ n) : afterM m t g < 2 ^ n := by
  unfold afterM
  split
  · exact Nat.xor_lt_two_pow h hg
  · exact h
theorem afterM_odd {m t g : Nat} (h : m.testBit 0 = true) (hg : g.testBit 0 = false) : (afterM m t g).testBit 0 = true := by
  unfold afterM
  split
  · rw [Nat.testBit_xor, h, hg]; rfl
  · exact h
theorem oddN_xor (a b : Nat) : oddN (a ^^^ b) = (oddN a != oddN b) := by
  have h : ∀ (N a b : Nat), a < 2 ^ N → b < 2 ^ N → oddN (a ^^^ b) = (oddN a != oddN b) := by
    intro N
    induction N with
    | zero =>
      intro a b ha hb
      have : a = 0 := by omega
      have : b = 0 := by omega
      subst a b
      simp [oddN, pop_zero]
    | succ N ih =>
      intro a b ha hb
      rw [Nat.pow_succ] at ha hb
      have i := ih (a / 2) (b / 2) (by omega) (by omega)
      unfold oddN at i ⊢
      rw [pop_step (a ^^^ b), pop_step a, pop_step b, Nat.xor_div_two]
      have x : (a ^^^ b) % 2 = (a % 2 + b % 2) % 2 := by
        have e : (a ^^^ b) % 2 = 1 ↔ ¬ (a % 2 = 1 ↔ b % 2 = 1) := Nat.xor_mod_two_eq_one
        omega
      generalize pop (a / 2 ^^^ b / 2) = P at i
      generalize pop (a / 2) = A at i
      generalize pop (b / 2) = B at i
      rw [x]
      clear x
      have dm : ∀ c d : Nat, (decide (c % 2 = 1) != decide (d % 2 = 1)) = decide ((c + d) % 2 = 1) := by
        intro c d
        rcases Nat.mod_two_eq_zero_or_one c with e1 | e1 <;> rcases Nat.mod_two_eq_zero_or_one d with e2 | e2 <;> simp [e1, e2, Nat.add_mod]
      rw [dm] at i ⊢
      have i' : P % 2 = 1 ↔ (A + B) % 2 = 1 := by
        rw [← decide_eq_true_eq (p := P % 2 = 1), i, decide_eq_true_eq]
      rw [Bool.eq_iff_iff, decide_eq_true_eq, decide_eq_true_eq]
      omega
  refine h (a + b) a b ?_ ?_
  · exact Nat.lt_of_lt_of_le Nat.lt_two_pow_self (Nat.pow_le_pow_right (by decide) (by omega))
  · exact Nat.lt_of_lt_of_le Nat.lt_two_pow_self (Nat.pow_le_pow_right (by decide) (by omega))
theorem and_xor_dist (a b c : Nat) : (a ^^^ b) &&& c = (a &&& c) ^^^ (b &&& c) := Nat.and_xor_distrib_right ..
/-- the parity of the tested cells stays -/
theorem afterM_test {m t g : Nat} (ev : oddN (t &&& g) = false) : oddN (afterM m t g &&& t) = oddN (m &&& t) := by
  unfold afterM
  split
  · rw [and_xor_dist, oddN_xor, Nat.and_comm g t, ev]
    cases oddN (m &&& t) <;> rfl
  · rfl
theorem afterM_twice {m t g : Nat} (ev : oddN (t &&& g) = false) : afterM (afterM m t g) t g = m := by
  have h := afterM_test (m := m) ev
  by_cases c : oddN (m &&& t) = true
  · rw [c] at h
    have e : afterM m t g = m ^^^ g := by unfold afterM; rw [if_pos c]
    rw [e] at h ⊢
    unfold afterM
    rw [if_pos h, Nat.xor_assoc, Nat.xor_self, Nat.xor_zero]
  · have e : afterM m t g = m := by unfold afterM; rw [if_neg c]
    rw [e, e]
theorem spots_cells {d : PyData} {w : Int} : spotsD d 0 w = (cellsD d w).isSome := by
  cases h : seqD d with
  | none => unfold spotsD cellsD; rw [h]; rfl
  | some ds => rw [spotsD_seq h, cellsD_seq h]; cases areCells 0 (w - 1) ds <;> rfl
theorem cells_ns {d : PyData} {s : Int} {ts : List Int} (e : cellsD d s = some ts) : ∃ ns : List Int, seqD d = some (ns.map .int) ∧ ns.Nodup ∧ (∀ n ∈ ns, 0 ≤ n ∧ n < s) ∧ isort ns = ts := by
  obtain ⟨ds, h, c, rfl⟩ := cells_some e
  have c2 := Bool.and_eq_true_iff.mp c
  refine ⟨intsD ds, ?_, of_decide_eq_true c2.2, fun n hn => by have := ints_in c n hn; omega, rfl⟩
  rw [h, ← intsOf c2.1]
theorem oddN_count {ns ms : List Int} (h : ∀ n ∈ ns, 0 ≤ n ∧ n < 64) (nd : ns.Nodup) (hm : ∀ n ∈ ms, 0 ≤ n) (md : ms.Nodup) :
    oddN ((maskI ns).toNat &&& (maskI ms).toNat) = decide ((ns.filter fun t => decide (t ∈ ms)).length % 2 = 1) := by
  unfold oddN
  rw [pop_and h nd]
  have e : (ns.filter fun i => (maskI ms).toNat.testBit i.toNat) = ns.filter fun t => decide (t ∈ ms) := by
    apply List.filter_congr
    intro t ht
    rw [mask_bit _ hm md, show ((t.toNat : Nat) : Int) = t by have := h t ht; omega]
  rw [e]
/-- what is refused, as the laws tell it -/
def badD (d e : PyData) : Option PyData :=
  match cellsD d 40 with
  | none => some (.list [.str "cells", d, .bool true])
  | some ts => match cellsD e 40 with
    | none => some (.list [.str "cells", e, .bool true])
    | some gs => if (0 : Int) ∈ gs then some (.list [.str "fixed", .bool true]) else if oddN ((maskI ts).toNat &&& (maskI gs).toNat) = true then some (.list [.str "odd", .bool true]) else none
theorem badD_none {d e : PyData} (h : badD d e = none) : ∃ ts gs, cellsD d 40 = some ts ∧ cellsD e 40 = some gs ∧ (0 : Int) ∉ gs ∧ oddN ((maskI ts).toNat &&& (maskI gs).toNat) = false := by
  unfold badD at h
  cases h1 : cellsD d 40 with
  | none => rw [h1] at h; cases h
  | some ts =>
    rw [h1] at h
    cases h2 : cellsD e 40 with
    | none => rw [h2] at h; cases h
    | some gs =>
      rw [h2] at h
      by_cases c : (0 : Int) ∈ gs
      · simp [c] at h
      · by_cases o : oddN ((maskI ts).toNat &&& (maskI gs).toNat) = true
        · simp [c, o] at h
        · exact ⟨ts, gs, rfl, rfl, c, by simpa using o⟩
theorem badD_t {d e : PyData} (h : cellsD d 40 = none) : badD d e = some (.list [.str "cells", d, .bool true]) := by unfold badD; rw [h]
theorem badD_g {d e : PyData} {ts : List Int} (h : cellsD d 40 = some ts) (h2 : cellsD e 40 = none) : badD d e = some (.list [.str "cells", e, .bool true]) := by unfold badD; rw [h, h2]
theorem badD_f {d e : PyData} {ts gs : List Int} (h : cellsD d 40 = some ts) (h2 : cellsD e 40 = some gs) (h3 : (0 : Int) ∈ gs) : badD d e = some (.list [.str "fixed", .bool true]) := by
  unfold badD; rw [h, h2]; simp [h3]
theorem badD_o {d e : PyData} {ts gs : List Int} (h : cellsD d 40 = some ts) (h2 : cellsD e 40 = some gs) (h3 : (0 : Int) ∉ gs) (h4 : oddN ((maskI ts).toNat &&& (maskI gs).toNat) = true) :
    badD d e = some (.list [.str "odd", .bool true]) := by
  unfold badD; rw [h, h2]; simp [h3, h4]
theorem badD_ok {d e : PyData} {ts gs : List Int} (h : cellsD d 40 = some ts) (h2 : cellsD e 40 = some gs) (h3 : (0 : Int) ∉ gs) (h4 : oddN ((maskI ts).toNat &&& (maskI gs).toNat) = false) : badD d e = none := by
  unfold badD; rw [h, h2]; simp [h3, h4]
theorem tame_words {s : Str} (h : s.length ≤ 10) (ok : PyData.strOk s = true) {d : PyData} {k n : Nat} (t : Tame d k n) (hk : 1 ≤ k) (hn : 10 ≤ n) : Tame (.list [.str s, d, .bool true]) (k + 1) (3 * (n + 1)) := by
  refine tame_lst (tameL_of (k := k) (m := n) fun e he => ?_)
  simp only [List.mem_cons, List.not_mem_nil, or_false] at he
  rcases he with rfl | rfl | rfl
  · exact (tame_str h ok).mono hk hn
  · exact t
  · exact tame_bool.mono hk (by omega)
theorem tame_why {s : Str} (h : s.length ≤ 10) (ok : PyData.strOk s = true) : Tame (.list [.str s, .bool true]) 2 22 := by
  refine (tame_lst (tameL_of (k := 1) (m := 10) fun e he => ?_)).mono (by decide) (by simp)
  simp only [List.mem_cons, List.not_mem_nil, or_false] at he
  rcases he with rfl | rfl
  · exact tame_str h ok
  · exact tame_bool.mono (by decide) (by decide)
theorem badD_tame {d e r : PyData} (h : badD d e = some r) (td : Tame d 38 16000) (te : Tame e 38 16000) : Tame r 40 50000 := by
  have w1 : Tame (.list [.str "cells", d, .bool true]) 40 50000 := (tame_words (by decide) (by decide +kernel) td (by decide) (by decide)).mono (by decide) (by decide)
  have w2 : Tame (.list [.str "cells", e, .bool true]) 40 50000 := (tame_words (by decide) (by decide +kernel) te (by decide) (by decide)).mono (by decide) (by decide)
  cases h1 : cellsD d 40 with
  | none => rw [badD_t h1] at h; cases h; exact w1
  | some ts =>
    cases h2 : cellsD e 40 with
    | none => rw [badD_g h1 h2] at h; cases h; exact w2
    | some gs =>
      by_cases c : (0 : Int) ∈ gs
      · rw [badD_f h1 h2 c] at h; cases h; exact (tame_why (by decide) (by decide +kernel)).mono (by decide) (by decide)
      · by_cases o : oddN ((maskI ts).toNat &&& (maskI gs).toNat) = true
        · rw [badD_o h1 h2 c o] at h; cases h; exact (tame_why (by decide) (by decide +kernel)).mono (by decide) (by decide)
        · rw [badD_ok h1 h2 c (by simpa using o)] at h; cases h
theorem badD_len {d e r : PyData} (h : badD d e = some r) : ∃ rs, r = .list rs ∧ rs.length ≠ 1 := by
  cases h1 : cellsD d 40 with
  | none => rw [badD_t h1] at h; cases h; exact ⟨_, rfl, by simp⟩
  | some ts =>
    cases h2 : cellsD e 40 with
    | none => rw [badD_g h1 h2] at h; cases h; exact ⟨_, rfl, by simp⟩
    | some gs =>
      by_cases c : (0 : Int) ∈ gs
      · rw [badD_f h1 h2 c] at h; cases h; exact ⟨_, rfl, by simp⟩
      · by_cases o : oddN ((maskI ts).toNat &&& (maskI gs).toNat) = true
        · rw [badD_o h1 h2 c o] at h; cases h; exact ⟨_, rfl, by simp⟩
        · rw [badD_ok h1 h2 c (by simpa using o)] at h; cases h
def dueD (d e : PyData) : PyData := (badD d e).getD (.list [.str "flip"])
def widM (t g : Nat) : Nat := max 1 (Builtin.Int.intBits ((t ||| g : Nat) : Int))
theorem widM_le {t g n : Nat} (h : 1 ≤ n) : widM t g ≤ n ↔ t < 2 ^ n ∧ g < 2 ^ n := by
  unfold widM
  rw [Nat.max_le]
  have e : Builtin.Int.intBits ((t ||| g : Nat) : Int) ≤ n ↔ (t ||| g) < 2 ^ n := by
    have := PySem.intBits_le_iff (m := n) (x := ((t ||| g : Nat) : Int))
    simpa using this
  rw [e]
  constructor
  · rintro ⟨_, h2⟩
    exact ⟨Nat.lt_of_le_of_lt Nat.left_le_or h2, Nat.lt_of_le_of_lt Nat.right_le_or h2⟩
  · rintro ⟨h1, h2⟩
    exact ⟨h, Nat.or_lt_two_pow h1 h2⟩
theorem or_nn (a b : Nat) : Builtin.bitOr (a : Int) (b : Int) = ((a ||| b : Nat) : Int) := by
  have h := bitOr_nn (Int.natCast_nonneg a) (Int.natCast_nonneg b)
  simpa using h
theorem maskN {ns : List Int} : maskI ns = (((maskI ns).toNat : Nat) : Int) := by have := maskI_nn ns; omega
theorem mask_40 {d : PyData} {ns : List Int} (e : cellsD d 40 = some ns) : (maskI ns).toNat < 2 ^ 40 := by
  obtain ⟨m1, m2⟩ := cells_range e
  exact mask_lt (k := 40) m1 (m2.imp fun h => by omega)
theorem mask_zero {d : PyData} {ns : List Int} {s : Int} (e : cellsD d s = some ns) : (maskI ns).toNat.testBit 0 = decide ((0 : Int) ∈ ns) := by
  obtain ⟨m1, m2⟩ := cells_range e
  exact mask_bit 0 (fun n hn => (m1 n hn).1) (m2.imp fun h => by omega)
/-- tested and toggled cells, as the laws hold them -/
structure PairOk (n : Nat) (ts gs : List Int) : Prop where
  tr : ∀ t ∈ ts, 0 ≤ t ∧ t < n
  ta : ts.Pairwise (· < ·)
  gr : ∀ g ∈ gs, 1 ≤ g ∧ g < n
  ga : gs.Pairwise (· < ·)
  ev : (ts.filter fun t => decide (t ∈ gs)).length % 2 = 0
def pairD (ts gs : List Int) : PyData := .tuple [lstI ts, lstI gs]
section
variable {n : Nat} {ts gs : List Int}
theorem PairOk.tn (h : PairOk n ts gs) : ts.Nodup := h.ta.imp fun h => by omega
theorem PairOk.gn (h : PairOk n ts gs) : gs.Nodup := h.ga.imp fun h => by omega
theorem PairOk.g0 (h : PairOk n ts gs) : ∀ g ∈ gs, 0 ≤ g ∧ g < n := fun g hg => by have := h.gr g hg; omega
theorem PairOk.no0 (h : PairOk n ts gs) : (0 : Int) ∉ gs := fun m => by have := h.gr 0 m; omega
theorem PairOk.tl (h : PairOk n ts gs) : ts.length ≤ n := by have := asc_len h.tr h.ta (by omega); omega
theorem PairOk.gl (h : PairOk n ts gs) : gs.length ≤ n := by have := asc_len h.g0 h.ga (by omega); omega
theorem PairOk.even (h : PairOk n ts gs) (hn : n ≤ 64) : oddN ((maskI ts).toNat &&& (maskI gs).toNat) = false := by
  unfold oddN
  rw [pop_and (fun t ht => by have := h.tr t ht; omega) h.tn]
  have e : (ts.filter fun i => (maskI gs).toNat.testBit i.toNat) = ts.filter fun t => decide (t ∈ gs) := by
    apply List.filter_congr
    intro t ht
    rw [mask_bit _ (fun g hg => (h.g0 g hg).1) h.gn]
    have := (h.tr t ht).1
    rw [show ((t.toNat : Nat) : Int) = t by omega]
  rw [e, h.ev]
  rfl
theorem PairOk.flip (h : PairOk n ts gs) (hn : n ≤ 40) : FlipOk (maskI ts).toNat (maskI gs).toNat := by
  refine ⟨mask_lt (k := 40) (fun t ht => by have := h.tr t ht; omega) h.tn, mask_lt (k := 40) (fun t ht => by have := h.gr t ht; omega) h.gn, ?_, h.even (by omega)⟩
  rw [mask_bit 0 (fun g hg => (h.g0 g hg).1) h.gn]
  exact decide_eq_false h.no0
theorem PairOk.mono (h : PairOk n ts gs) {k : Nat} (hk : n ≤ k) : PairOk k ts gs :=
  ⟨fun t ht => by have := h.tr t ht; omega, h.ta, fun t ht => by have := h.gr t ht; omega, h.ga, h.ev⟩
theorem filter_ne_len {l : List Int} {g : Int} (nd : l.Nodup) (m : g ∈ l) : (l.filter fun t => !decide (t = g)).length + 1 = l.length := by
  have e : (l.filter fun t => !decide (t = g)) = l.erase g := by
    rw [nd.erase_eq_filter]
    apply List.filter_congr
    intro t _
    by_cases c : t = g <;> simp [c]
  rw [e, List.length_erase_of_mem m]
  have := List.length_pos_of_mem m
  omega
theorem PairOk.lessT {g : Int} (tr : ∀ t ∈ ts, 0 ≤ t ∧ t < n) (ta : ts.Pairwise (· < ·)) (gr : ∀ g ∈ gs, 1 ≤ g ∧ g < n) (ga : gs.Pairwise (· < ·)) (od : (ts.filter fun t => decide (t ∈ gs)).length % 2 = 1)
    (m : g ∈ ts.filter fun t => decide (t ∈ gs)) : PairOk n (ts.filter fun t => !decide (t = g)) gs := by
  refine ⟨fun t ht => tr t ((List.mem_filter.mp ht).1), ta.filter _, gr, ga, ?_⟩
  have tn : ts.Nodup := ta.imp fun h => by omega
  have e : ((ts.filter fun t => !decide (t = g)).filter fun t => decide (t ∈ gs)) = (ts.filter fun t => decide (t ∈ gs)).filter fun t => !decide (t = g) := by
    rw [List.filter_filter, List.filter_filter]
    apply List.filter_congr
    intro t _
    rw [Bool.and_comm]
  rw [e]
  have := filter_ne_len (tn.filter _) m
  omega
theorem PairOk.lessG {g : Int} (tr : ∀ t ∈ ts, 0 ≤ t ∧ t < n) (ta : ts.Pairwise (· < ·)) (gr : ∀ g ∈ gs, 1 ≤ g ∧ g < n) (ga : gs.Pairwise (· < ·)) (od : (ts.filter fun t => decide (t ∈ gs)).length % 2 = 1)
    (m : g ∈ ts.filter fun t => decide (t ∈ gs)) : PairOk n ts (gs.filter fun t => !decide (t = g)) := by
  refine ⟨tr, ta, fun t ht => gr t ((List.mem_filter.mp ht).1), ga.filter _, ?_⟩
  have tn : ts.Nodup := ta.imp fun h => by omega
  have e : (ts.filter fun t => decide (t ∈ gs.filter fun t => !decide (t = g))) = (ts.filter fun t => decide (t ∈ gs)).filter fun t => !decide (t = g) := by
    rw [List.filter_filter]
    apply List.filter_congr
    intro t _
    rw [Bool.eq_iff_iff, decide_eq_true_eq, List.mem_filter, Bool.and_eq_true, decide_eq_true_eq, Bool.not_eq_true', decide_eq_false_iff_not]
    exact And.comm
  rw [e]
  have := filter_ne_len (tn.filter _) m
  omega
/-- the masks of a pair -/
theorem PairOk.ct (h : PairOk n ts gs) (hn : n ≤ 40) : cellsD (lstI ts) 40 = some ts ∧ cellsD (tupI ts) 40 = some ts := (cells_asc (fun t ht => by have := h.tr t ht; omega) h.ta).symm
theorem PairOk.cg (h : PairOk n ts gs) (hn : n ≤ 40) : cellsD (lstI gs) 40 = some gs ∧ cellsD (tupI gs) 40 = some gs := (cells_asc (fun t ht => by have := h.gr t ht; omega) h.ga).symm
theorem PairOk.tt (h : PairOk n ts gs) (hn : n ≤ 40) : Tame (lstI ts) 2 40 := tame_lstI (fun t ht => by have := h.tr t ht; omega) (by have := h.tl; omega)
theorem PairOk.tg (h : PairOk n ts gs) (hn : n ≤ 40) : Tame (lstI gs) 2 40 := tame_lstI (fun t ht => by have := h.gr t ht; omega) (by have := h.gl; omega)
/-- the law's own answer -/
theorem afterM_bits {m : Nat} (h : PairOk n ts gs) (hn : n ≤ 64) : bitSum m ts % 2 = 0 → afterM m (maskI ts).toNat (maskI gs).toNat = m := by
  intro e
  unfold afterM
  rw [Nat.and_comm, if_neg]
  intro o
  have p := parity_and (m := m) (fun t ht => by have := h.tr t ht; omega) h.tn
  rw [o, if_pos rfl] at p
  omega
theorem afterM_bits1 {m : Nat} (h : PairOk n ts gs) (hn : n ≤ 64) : bitSum m ts % 2 ≠ 0 → afterM m (maskI ts).toNat (maskI gs).toNat = m ^^^ (maskI gs).toNat := by
  intro e
  unfold afterM
  rw [Nat.and_comm, if_pos]
  have p := parity_and (m := m) (fun t ht => by have := h.tr t ht; omega) h.tn
  by_cases o : oddN ((maskI ts).toNat &&& m) = true
  · exact o
  · rw [if_neg o] at p
    omega
theorem bits_xorL {m : Nat} (h : PairOk n ts gs) : (List.range n).map (fun i => if ((i : Nat) : Int) ∈ gs then 1 - bitI m i else bitI m i) = bitsOf n (m ^^^ (maskI gs).toNat) :=
  bits_xor (fun g hg => (h.g0 g hg).1) h.gn
theorem PairOk.wid (h : PairOk n ts gs) (h1 : 1 ≤ n) : widM (maskI ts).toNat (maskI gs).toNat ≤ n :=
  (widM_le h1).mpr ⟨mask_lt h.tr h.tn, mask_lt h.g0 h.gn⟩
end
theorem mask_lt_iff {ns : List Int} {k : Nat} (h : ∀ n ∈ ns, 0 ≤ n) (nd : ns.Nodup) : (maskI ns).toNat < 2 ^ k ↔ ∀ n ∈ ns, n < k := by
  constructor
  · intro lt n hn
    have h0 := h n hn
    have b := mask_bit n.toNat h nd
    rw [show ((n.toNat : Nat) : Int) = n by omega, decide_eq_true hn] at b
    by_cases c : n < k
    · exact c
    · rw [Nat.testBit_lt_two_pow (Nat.lt_of_lt_of_le lt (Nat.pow_le_pow_right (by decide) (by omega)))] at b
      cases b
  · intro lt
    exact mask_lt (fun n hn => ⟨h n hn, lt n hn⟩) nd
theorem wid_max {ts gs : List Int} {m : Int} (ht : ∀ t ∈ ts, 0 ≤ t) (tn : ts.Nodup) (hg : ∀ t ∈ gs, 0 ≤ t) (gn : gs.Nodup) (mm : m ∈ [0] ++ ts ++ gs) (hm : ∀ y ∈ [0] ++ ts ++ gs, y ≤ m) :
    1 + m = ((widM (maskI ts).toNat (maskI gs).toNat : Nat) : Int) := by
  have m0 : 0 ≤ m := hm 0 (by simp)
  have key : ∀ k : Nat, 1 ≤ k → (widM (maskI ts).toNat (maskI gs).toNat ≤ k ↔ 1 + m ≤ k) := by
    intro k hk
    rw [widM_le hk, mask_lt_iff ht tn, mask_lt_iff hg gn]
    constructor
    · rintro ⟨h1, h2⟩
      simp only [List.mem_append, List.mem_singleton] at mm
      rcases mm with (rfl | mm) | mm
      · omega
      · have := h1 m mm
        omega
      · have := h2 m mm
        omega
    · intro hk2
      refine ⟨fun t ht => ?_, fun t ht => ?_⟩
      · have := hm t (by simp [ht])
        omega
      · have := hm t (by simp [ht])
        omega
  have w1 : 1 ≤ widM (maskI ts).toNat (maskI gs).toNat := Nat.le_max_left ..
  have a := (key _ w1).mp (Nat.le_refl _)
  have b := (key (1 + m).toNat (by omega)).mpr (by omega)
  omega
theorem mask_zero_iff {ns : List Int} : (maskI ns).toNat = 0 ↔ ns = [] := by
  cases ns with
  | nil => simp [maskI]
  | cons n ns =>
    have h : (0 : Int) < 2 ^ n.toNat := Int.pow_pos (by decide)
    have := maskI_nn ns
    rw [maskI_cons]
    constructor
    · intro; omega
    · intro z; cases z
theorem bits_isort {ns : List Int} (hr : ∀ n ∈ ns, 0 ≤ n ∧ n < 64) (nd : ns.Nodup) : bitsL (maskI ns).toNat = isort ns := by
  refine bits_of_mask (fun i _ => ?_) (fun n hn => hr n ((isort_perm ns).mem_iff.mp hn)) ?_
  · rw [mask_bit i (fun n hn => (hr n hn).1) nd, Bool.eq_iff_iff, decide_eq_true_eq, decide_eq_true_eq, (isort_perm ns).mem_iff]
  · have nd2 : (isort ns).Nodup := (isort_perm ns).nodup_iff.mpr nd
    exact ((isort_le ns).and nd2).imp fun h => by
      have h1 := h.1
      have h2 := h.2
      omega
theorem PairOk.max {n : Nat} {ts gs : List Int} {m : Int} (h : PairOk n ts gs) (mm : m ∈ [0] ++ ts ++ gs) (hm : ∀ y ∈ [0] ++ ts ++ gs, y ≤ m) : 1 + m = ((widM (maskI ts).toNat (maskI gs).toNat : Nat) : Int) := by
  have m0 : 0 ≤ m := hm 0 (by simp)
  have key : ∀ k : Nat, 1 ≤ k → (widM (maskI ts).toNat (maskI gs).toNat ≤ k ↔ 1 + m ≤ k) := by
    intro k hk
    rw [widM_le hk, mask_lt_iff (fun t ht => (h.tr t ht).1) h.tn, mask_lt_iff (fun t ht => (h.g0 t ht).1) h.gn]
    constructor
    · rintro ⟨h1, h2⟩
      simp only [List.mem_append, List.mem_singleton] at mm
      rcases mm with (rfl | mm) | mm
      · omega
      · have := h1 m mm
        omega
      · have := h2 m mm
        omega
    · intro hk2
      refine ⟨fun t ht => ?_, fun t ht => ?_⟩
      · have := hm t (by simp [ht])
        omega
      · have := hm t (by simp [ht])
        omega
  have w1 : 1 ≤ widM (maskI ts).toNat (maskI gs).toNat := Nat.le_max_left ..
  have a := (key _ w1).mp (Nat.le_refl _)
  have b := (key (1 + m).toNat (by omega)).mpr (by omega)
  omega
theorem bits_cons (n m : Nat) : bitsOf (n + 1) (2 * m + 1) = 1 :: bitsOf n m := by
  rw [bitsOf, List.range_succ_eq_map, List.map_cons, List.map_map]
  congr 1
  · unfold bitI
    rw [Nat.testBit_zero]
    simp
  · unfold bitsOf
    apply List.map_congr_left
    intro i _
    simp only [Function.comp_apply, bitI, Nat.succ_eq_add_one]
    rw [Nat.testBit_succ, show (2 * m + 1) / 2 = m by omega]
def allBitsD (n : Nat) : PyData := .list ((List.range (2 ^ (n - 1))).map fun k => lstI (bitsOf n (2 * k + 1)))
theorem odd_mask {n m : Nat} (h : m < 2 ^ n) (n1 : 1 ≤ n) (od : m.testBit 0 = true) : ∃ k, k < 2 ^ (n - 1) ∧ m = 2 * k + 1 := by
  rw [Nat.testBit_zero] at od
  have od' : m % 2 = 1 := of_decide_eq_true od
  obtain ⟨k, rfl⟩ := Nat.exists_eq_add_of_le' n1
  rw [Nat.pow_succ] at h
  exact ⟨m / 2, by rw [Nat.add_sub_cancel]; omega, by omega⟩
theorem odd_bit (k : Nat) : (2 * k + 1).testBit 0 = true := by rw [Nat.testBit_zero]; simp
theorem odd_lt {n k : Nat} (n1 : 1 ≤ n) (h : k < 2 ^ (n - 1)) : 2 * k + 1 < 2 ^ n := by
  obtain ⟨j, rfl⟩ := Nat.exists_eq_add_of_le' n1
  rw [Nat.add_sub_cancel] at h
  rw [Nat.pow_succ]
  omega
/-- a mask behind a sequence of flips -/
def afterL (m : Nat) (fl : List (Nat × Nat)) : Nat := fl.foldl (fun m f => afterM m f.1 f.2) m
def wideF (n : Nat) (fl : List (Nat × Nat)) : Option (Nat × Nat) := fl.find? fun f => decide (n < widM f.1 f.2)
theorem bits_pop {m : Nat} (h : m < 2 ^ 64) : (bitsL m).length = pop m := by
  rw [pop_filter 64 m h]
  unfold bitsL
  rw [List.length_map]
theorem take_wide {n : Nat} {fl : List (Nat × Nat)} {i : Nat} {f : Nat × Nat} (hf : fl[i]? = some f) (h : wideF n (fl.take i) = none) (w : n < widM f.1 f.2) : wideF n fl = some f := by
  have hi := (List.getElem?_eq_some_iff.mp hf).1
  have e : fl = fl.take i ++ f :: fl.drop (i + 1) := by
    have := (List.getElem?_eq_some_iff.mp hf).2
    rw [← this, ← List.drop_eq_getElem_cons hi, List.take_append_drop]
  unfold wideF at h ⊢
  rw [e, List.find?_append, h, List.find?_cons, decide_eq_true w]
  rfl
theorem wide_snoc {n : Nat} {l : List (Nat × Nat)} {f : Nat × Nat} (h : wideF n l = none) (w : widM f.1 f.2 ≤ n) : wideF n (l ++ [f]) = none := by
  unfold wideF at h ⊢
  rw [List.find?_append, h, List.find?_cons, decide_eq_false (by omega)]
  rfl
theorem s_iRaw {K : PySem.W.Frag} {p a : Addr} {H : Hp} {xs : List V} {σ : L2.St} {i : Nat} {g : TG} {tb : TS} {D : Ends} (hv : σ[i]? = some (some (.ref a))) (np : a ≠ p) (h : SqL K H a xs ∨ SqT K H a xs)
    (q : ∀ J G, Walk J xs.length G (YAt xs) → (∀ H', R p H H' → G H') → ForG J g tb D σ H) : tFor (iOr (iList K (tVar i)) (iTup K (tVar i))) g tb D σ H := by
  have up : ∀ H', R p H H' → SqT K H a xs → SqT K H' a xs := fun H' r s => by
    rcases s with (s | ⟨o, s⟩) | s
    · exact .inl (.inl (r.tup s))
    · exact .inl (.inr ⟨o, r.frz _ _ _ s⟩)
    · exact .inr s
  rcases h with h | h
  · exact .inl ⟨_, hv, a, rfl, ⟨xs, h⟩, q _ _ walk_list (fun H' r => SqL.up r np h)⟩
  · exact .inr ⟨_, hv, a, rfl, ⟨xs, h⟩, q _ _ walk_tup (fun H' r => up H' r h)⟩
/-- a cell mask moved past a flip -/
def pastM (m t g : Nat) : Nat := if oddN (m &&& g) = true then m ^^^ t else m
theorem pastM_lt {m t g n : Nat} (h : m < 2 ^ n) (ht : t < 2 ^ n) : pastM m t g < 2 ^ n := by
  unfold pastM
  split
  · exact Nat.xor_lt_two_pow h ht
  · exact h
theorem and_xor_distL (a b c : Nat) : c &&& (a ^^^ b) = (c &&& a) ^^^ (c &&& b) := Nat.and_xor_distrib_left ..
theorem test_after (m t g u : Nat) : oddN (afterM m t g &&& u) = (oddN (m &&& u) != (oddN (m &&& t) && oddN (g &&& u))) := by
  unfold afterM
  split
  · rename_i h
    rw [and_xor_dist, oddN_xor, h, Bool.true_and]
  · rename_i h
    have : oddN (m &&& t) = false := by simpa using h
    rw [this, Bool.false_and]
    simp
/-- the parity before is the parity of the moved cells after -/
theorem past_parity {s m t g : Nat} (ev : oddN (t &&& g) = false) : oddN (pastM s t g &&& afterM m t g) = oddN (s &&& m) := by
  rw [Nat.and_comm, test_after, Nat.and_comm]
  unfold pastM
  split
  · rename_i h
    rw [and_xor_dist, oddN_xor, and_xor_distL, oddN_xor, Nat.and_comm g s, h, Nat.and_comm g t, ev, Nat.and_comm t m]
    cases oddN (s &&& m) <;> cases oddN (m &&& t) <;> rfl
  · rename_i h
    have e : oddN (s &&& g) = false := by simpa using h
    rw [Nat.and_comm g s, e, Bool.and_false]
    cases oddN (s &&& m) <;> rfl
/-- ascending cells: a set as a mask -/
theorem asc_eq {ns ms : List Int} (hn : ∀ n ∈ ns, 0 ≤ n) (an : ns.Pairwise (· < ·)) (hm : ∀ n ∈ ms, 0 ≤ n) (am : ms.Pairwise (· < ·)) (h : maskI ns = maskI ms) : ns = ms := by
  have nn : ns.Nodup := an.imp fun h => by omega
  have mn : ms.Nodup := am.imp fun h => by omega
  have pm : ns.Perm ms := by
    refine (List.perm_ext_iff_of_nodup nn mn).mpr fun a => ?_
    by_cases h0 : 0 ≤ a
    · have b1 := mask_bit a.toNat hn nn
      have b2 := mask_bit a.toNat hm mn
      rw [h, b2] at b1
      rw [show ((a.toNat : Nat) : Int) = a by omega] at b1
      have := (Bool.eq_iff_iff.mp b1)
      rw [decide_eq_true_eq, decide_eq_true_eq] at this
      exact this.symm
    · exact ⟨fun z => absurd (hn a z) h0, fun z => absurd (hm a z) h0⟩
  exact pm.eq_of_pairwise (fun a b _ _ h1 h2 => by omega) an am
/-- what is in one of two lists alone -/
def symD (a b : List Int) : List Int := isort ((a.filter fun t => !decide (t ∈ b)) ++ b.filter fun t => !decide (t ∈ a))
theorem symD_perm {a b ks : List Int} (h : ks.Perm ((a.filter fun t => !decide (t ∈ b)) ++ b.filter fun t => !decide (t ∈ a))) (s : ks.Pairwise (· ≤ ·)) : ks = symD a b := isort_is h s
theorem mem_symD {a b : List Int} {x : Int} : x ∈ symD a b ↔ (x ∈ a ∧ x ∉ b) ∨ (x ∈ b ∧ x ∉ a) := by
  unfold symD
  rw [(isort_perm _).mem_iff, List.mem_append, List.mem_filter, List.mem_filter]
  simp
theorem symD_nodup {a b : List Int} (ha : a.Nodup) (hb : b.Nodup) : (symD a b).Nodup := by
  unfold symD
  rw [(isort_perm _).nodup_iff, List.nodup_append]
  refine ⟨ha.filter _, hb.filter _, ?_⟩
  intro x hx y hy e
  subst e
  simp at hx hy
  exact hx.2 hy.1
theorem symD_asc {a b : List Int} (ha : a.Nodup) (hb : b.Nodup) : (symD a b).Pairwise (· < ·) := by
  have nd := symD_nodup ha hb
  exact ((isort_le _).and nd).imp fun h => by
    have h1 := h.1
    have h2 := h.2
    omega
theorem symD_mask {a b : List Int} (ha : ∀ x ∈ a, 0 ≤ x) (na : a.Nodup) (hb : ∀ x ∈ b, 0 ≤ x) (nb : b.Nodup) : (maskI (symD a b)).toNat = (maskI a).toNat ^^^ (maskI b).toNat := by
  have hs : ∀ x ∈ symD a b, 0 ≤ x := fun x hx => (mem_symD.mp hx).elim (fun h => ha x h.1) (fun h => hb x h.1)
  apply Nat.eq_of_testBit_eq
  intro i
  rw [Nat.testBit_xor, mask_bit i hs (symD_nodup na nb), mask_bit i ha na, mask_bit i hb nb]
  by_cases h1 : ((i : Nat) : Int) ∈ a <;> by_cases h2 : ((i : Nat) : Int) ∈ b <;> simp [mem_symD, h1, h2]
theorem symD_bits {a b : List Int} (ha : ∀ x ∈ a, 0 ≤ x ∧ x < 64) (na : a.Nodup) (hb : ∀ x ∈ b, 0 ≤ x ∧ x < 64) (nb : b.Nodup) : symD a b = bitsL ((maskI a).toNat ^^^ (maskI b).toNat) := by
  have la : (maskI a).toNat < 2 ^ 64 := mask_lt (k := 64) ha na
  have lb : (maskI b).toNat < 2 ^ 64 := mask_lt (k := 64) hb nb
  have e := symD_mask (fun x hx => (ha x hx).1) na (fun x hx => (hb x hx).1) nb
  have hs : ∀ x ∈ symD a b, 0 ≤ x := fun x hx => (mem_symD.mp hx).elim (fun h => (ha x h.1).1) (fun h => (hb x h.1).1)
  refine asc_eq hs (symD_asc na nb) (fun n hn => (bits_mem hn).1) (bits_asc _) ?_
  have e2 := mask_bits (Nat.xor_lt_two_pow la lb)
  have n1 := maskI_nn (symD a b)
  have n2 := maskI_nn (bitsL ((maskI a).toNat ^^^ (maskI b).toNat))
  omega
theorem bits_self {a : List Int} (ha : ∀ x ∈ a, 0 ≤ x ∧ x < 64) (aa : a.Pairwise (· < ·)) : bitsL (maskI a).toNat = a := by
  rw [bits_isort ha (aa.imp fun h => by omega)]
  exact (isort_is (List.Perm.refl a) (aa.imp fun h => by omega)).symm
theorem filter_len_le (ns : List Int) (P : Int → Bool) : (ns.filter P).length ≤ ns.length := List.length_filter_le _ _
theorem pow_small {n : Nat} (h : n ≤ 7) : 2 ^ (n - 1) ≤ 5000 := Nat.le_trans (Nat.pow_le_pow_right (by decide) (show n - 1 ≤ 6 by omega)) (by decide)
theorem ex_odd {n : Nat} (n1 : 1 ≤ n) : (∀ m ∈ (List.range (2 ^ (n - 1))).map (fun k => 2 * k + 1), m < 2 ^ n ∧ m.testBit 0 = true) := by
  intro m hm
  obtain ⟨k, hk, rfl⟩ := List.mem_map.mp hm
  exact ⟨odd_lt n1 (List.mem_range.mp hk), odd_bit k⟩
theorem allBitsD_ms (n : Nat) : allBitsD n = .list (((List.range (2 ^ (n - 1))).map (fun k => 2 * k + 1)).map fun m => lstI (bitsOf n m)) := by
  rw [allBitsD, List.map_map]
  rfl
/-- the text of cells -/
def textL (ns : List Int) : Str := if ns = [] then "-" else Txt.join "," (ns.map fun n => (toString n : Str))
def pairText (ts gs : List Int) : Str := textL ts ++ ">" ++ textL gs
def pairRepr (ts gs : List Int) : Str := "Flip(tested=" ++ (lstI ts).shown ++ ", toggled=" ++ (lstI gs).shown ++ ")"
theorem empty_app (x : Str) : Str.empty ++ x = x := by
  show (⟨#[] ++ x.cps⟩ : Str) = x
  rw [Array.empty_append]
theorem ok_of (s : String) : PyData.strOk (Str.ofString s) = true := by
  rw [ok_iff, Str.ofString_eq_toList]
  intro c hc
  rw [List.toList_toArray] at hc
  obtain ⟨ch, _, rfl⟩ := List.mem_map.mp hc
  rcases ch.valid with h | ⟨_, h⟩
  · exact Nat.lt_trans h (by decide)
  · exact h
theorem ok_joinC : ∀ (ys : List Str), (∀ y ∈ ys, PyData.strOk y = true) → PyData.strOk (Txt.join "," ys) = true := by
  intro ys h
  rw [TL.join_eq]
  induction ys with
  | nil => decide +kernel
  | cons y r ih =>
    cases r with
    | nil => exact h y (by simp)
    | cons u r => exact ok_app (ok_app (h y (by simp)) (by decide +kernel)) (ih fun z hz => h z (List.mem_cons_of_mem _ hz))
theorem len_joinC : ∀ (ys : List Str), (Txt.join "," ys).length ≤ (ys.map (·.length)).sum + ys.length := by
  intro ys
  rw [TL.join_eq]
  induction ys with
  | nil => decide +kernel
  | cons y r ih =>
    cases r with
    | nil => simp [Str.join]
    | cons u r =>
      show (y ++ ("," : Str) ++ Str.join "," (u :: r)).length ≤ _
      rw [len_app, len_app]
      simp only [List.map_cons, List.sum_cons, List.length_cons] at ih ⊢
      have : ("," : Str).length = 1 := by decide +kernel
      omega
theorem int_len {i : Int} (h : i.natAbs < 2 ^ 250) : (toString i : Str).length ≤ 300 := by
  have := (tame_int h).short
  simpa [PyData.leavesShort, PyData.shown] using this
theorem ints_sum {ns : List Int} (h : ∀ n ∈ ns, n.natAbs < 2 ^ 250) : ((ns.map fun n => (toString n : Str)).map (·.length)).sum ≤ 300 * ns.length := by
  induction ns with
  | nil => simp
  | cons n ns ih =>
    have := ih fun m hm => h m (List.mem_cons_of_mem _ hm)
    have := int_len (h n (by simp))
    simp only [List.map_cons, List.sum_cons, List.length_cons]
    omega
theorem textL_len {ns : List Int} (h : ∀ n ∈ ns, n.natAbs < 2 ^ 250) (hl : ns.length ≤ 64) : (textL ns).length ≤ 20000 := by
  unfold textL
  split
  · decide +kernel
  · have := len_joinC (ns.map fun n => (toString n : Str))
    have := ints_sum h
    rw [List.length_map] at *
    omega
theorem textL_ok (ns : List Int) : PyData.strOk (textL ns) = true := by
  unfold textL
  split
  · decide +kernel
  · refine ok_joinC _ fun y hy => ?_
    obtain ⟨n, _, rfl⟩ := List.mem_map.mp hy
    exact ok_of _
theorem ok_from : ∀ (ts : List Str) (k : Nat) (acc : Str), PyData.strOk acc = true → (∀ y ∈ ts, PyData.strOk y = true) → PyData.strOk (PySem.textFrom k acc ts) = true
  | [], k, acc, ha, _ => ha
  | t :: r, k, acc, ha, h => by
    refine ok_from r (k + 1) _ (ok_app (ok_app ha ?_) (h t (by simp))) fun y hy => h y (List.mem_cons_of_mem _ hy)
    exact ok_of _
theorem shownAll_ints : ∀ ns : List Int, PyData.shownAll (ns.map .int) = ns.map fun n => (toString n : Str)
  | [] => rfl
  | n :: ns => by
    show PyData.shown (.int n) :: PyData.shownAll (ns.map .int) = (toString n : Str) :: ns.map fun n => (toString n : Str)
    rw [shownAll_ints ns]
    unfold PyData.shown
    rfl
theorem shown_ok (ns : List Int) : PyData.strOk (lstI ns).shown = true := by
  show PyData.strOk (PySem.listText (PyData.shownAll (ns.map .int))) = true
  refine ok_app (ok_from _ _ _ (by decide +kernel) fun y hy => ?_) (by decide +kernel)
  rw [shownAll_ints] at hy
  obtain ⟨n, _, rfl⟩ := List.mem_map.mp hy
  exact ok_of _
theorem shown_len {ns : List Int} {k : Nat} (h : ∀ n ∈ ns, n.natAbs < 2 ^ 250) (hl : ns.length ≤ k) : (lstI ns).shown.length ≤ (k + 1) * 302 := by
  have t := tame_lstI h hl
  have := PyData.shown_le_bulk 300 (by decide) (lstI ns) t.short
  have := t.bulk
  omega
theorem bits_small {m : Nat} : ∀ n ∈ bitsL m, n.natAbs < 2 ^ 250 := fun n hn => by have := bits_mem hn; omega
theorem pairText_ok (ts gs : List Int) : PyData.strOk (pairText ts gs) = true := ok_app (ok_app (textL_ok _) (by decide +kernel)) (textL_ok _)
theorem pairRepr_ok (ts gs : List Int) : PyData.strOk (pairRepr ts gs) = true :=
  ok_app (ok_app (ok_app (ok_app (by decide +kernel) (shown_ok _)) (by decide +kernel)) (shown_ok _)) (by decide +kernel)
theorem s_fmtRD {K : PySem.W.Frag} {te : TE} {σ : L2.St} {H : Hp} {Q : VK} (q : te σ H fun x H1 => ∃ Z d, One H1 ∧ (∃ a, x = .ref a) ∧ Dat K Z H1 d x ∧ Tame d 40 50000 ∧ Q (.str d.shown) H1) : tFmtRD K te σ H Q := q
theorem s_maxl {K : PySem.W.Frag} {Z : List Addr} {H : Hp} {Q : VK} {x : V} {ks : List Int} (h : Dat K Z H (.list (ks.map .int)) x) (h0 : 0 < ks.length) (q : ∀ m, m ∈ ks → (∀ y, y ∈ ks → y ≤ m) → Q (.int m) H) : rMax K [x] H Q := by
  obtain ⟨a, xs, rfl, _, ha, l⟩ := h.lst
  rw [l.ints] at ha
  exact ⟨a, ks, rfl, .inl ha, h0, q⟩
theorem s_iTC {K : PySem.W.Frag} {p a : Addr} {Z : List Addr} {H : Hp} {ds : List PyData} {g : TG} {tt : TT} {te : TE} {vs : List Nat} {σ : L2.St} {Q : VK} (w : Wd p Z H) (hx : Dat K Z H (.tuple ds) (.ref a))
    (q : ∀ J G xs, Walk J ds.length G (YAt xs) → (∀ H', R p H H' → G H') → DatL K Z H ds xs → LcG J g tt te vs σ H Q) : (∃ xs, SqT K H a xs) ∧ LcG (Itt K a) g tt te vs σ H Q := by
  obtain ⟨b, xs, e, n, h, l⟩ := hx.tup
  cases e
  refine ⟨⟨xs, h⟩, q (Itt K a) (fun H' => SqT K H' a xs) xs ?_ (fun H' r => SqT.up r w.mem n h) l⟩
  rw [← l.length]
  exact walk_tup
theorem moved_even {t g t' g' : Nat} (e : oddN (t &&& g) = false) (e' : oddN (t' &&& g') = false) : oddN (pastM t t' g' &&& pastM g g' t') = false := by
  have c1 : oddN (g' &&& t) = oddN (t &&& g') := by rw [Nat.and_comm]
  have c2 : oddN (t' &&& g) = oddN (g &&& t') := by rw [Nat.and_comm]
  unfold pastM
  by_cases h1 : oddN (t &&& g') = true <;> by_cases h2 : oddN (g &&& t') = true
  · rw [if_pos h1, if_pos h2, and_xor_dist, and_xor_distL, and_xor_distL, oddN_xor, oddN_xor, oddN_xor, e, e', h1, c2, h2]; rfl
  · rw [if_pos h1, if_neg h2, and_xor_dist, oddN_xor, e, c2]
    simpa using h2
  · rw [if_neg h1, if_pos h2, and_xor_distL, oddN_xor, e]
    simpa using h1
  · rw [if_neg h1, if_neg h2, e]
theorem past_bit {g g' t' : Nat} (h : g.testBit 0 = false) (h' : g'.testBit 0 = false) : (pastM g g' t').testBit 0 = false := by
  unfold pastM
  split
  · rw [Nat.testBit_xor, h, h']; rfl
  · exact h
theorem xor_lc (a b c : Nat) : a ^^^ (b ^^^ c) = b ^^^ (a ^^^ c) := by rw [← Nat.xor_assoc, ← Nat.xor_assoc, Nat.xor_comm a b]
theorem xor_cancel (a b : Nat) : a ^^^ (b ^^^ a) = b := by rw [Nat.xor_comm b a, ← Nat.xor_assoc, Nat.xor_self, Nat.zero_xor]
/-- one flip, then the other, or the other and then the moved one -/
theorem moved_after {m t g t' g' : Nat} (ev' : oddN (t' &&& g') = false) :
    afterM (afterM m t' g') (pastM t t' g') (pastM g g' t') = afterM (afterM m t g) t' g' := by
  have h := past_parity (s := t) (m := m) ev'
  rw [Nat.and_comm, Nat.and_comm t m] at h
  have k := test_after m t g t'
  generalize hF : pastM t t' g' = T at h
  unfold afterM pastM
  unfold afterM at h k
  by_cases a : oddN (m &&& t) = true <;> by_cases b : oddN (m &&& t') = true <;> by_cases d : oddN (g &&& t') = true <;>
    simp only [a, b, d, Bool.not_eq_true] at * <;> simp_all [Nat.xor_assoc] <;>
    first
      | (rw [xor_lc g' g, Nat.xor_self, Nat.xor_zero]; done)
      | (rw [Nat.xor_comm m g', Nat.xor_comm m g, xor_lc]; done)
      | (rw [xor_lc g m, xor_lc g' m, Nat.xor_comm g g']; done)
      | (rw [Nat.xor_comm g g']; done)
      | (rw [Nat.xor_comm g' g]; done)
      | (rw [xor_lc m g', xor_lc]; done)
def intsTo (n : Nat) : List Int := (List.range n).map fun i => ((i : Nat) : Int)
theorem mem_intsTo {n : Nat} {k : Int} : k ∈ intsTo n ↔ 0 ≤ k ∧ k < n := by
  unfold intsTo
  rw [List.mem_map]
  constructor
  · rintro ⟨i, hi, rfl⟩
    have := List.mem_range.mp hi
    omega
  · rintro ⟨h1, h2⟩
    exact ⟨k.toNat, List.mem_range.mpr (by omega), by omega⟩
theorem intsTo_asc (n : Nat) : (intsTo n).Pairwise (· < ·) := by
  unfold intsTo
  rw [List.pairwise_map]
  exact List.pairwise_lt_range.imp fun h => by omega
theorem bitSum_to (n m : Nat) : bitSum m (intsTo n) = (bitsOf n m).sum := by
  unfold bitSum intsTo bitsOf
  rw [List.map_map]
  rfl
theorem told_bools (n m : Nat) (k : Int) (h : n ≤ 40) (hk : k.natAbs < 2 ^ 250) : Tame (.list ((List.range n).map (fun i => PyData.bool (m.testBit i)) ++ [PyData.int k])) 40 50000 := by
  refine (tame_lst (tameL_of (k := 1) (m := 0) fun e he => ?_)).mono (by decide) (by simp; omega)
  rcases List.mem_append.mp he with he | he
  · obtain ⟨i, _, rfl⟩ := List.mem_map.mp he
    exact tame_bool
  · obtain rfl := List.mem_singleton.mp he
    exact tame_int hk
theorem wide_max {n : Nat} {ts gs : List Int} (ok : PairOk n ts gs) (n1 : 1 ≤ n) {m : Int} (hm : m ∈ (0 :: ts ++ gs)) (h : ∀ y ∈ (0 :: ts ++ gs), y ≤ m) : ((widM (maskI ts).toNat (maskI gs).toNat : Nat) : Int) = 1 + m := by
  have m0 : 0 ≤ m := h 0 (by simp)
  have w1 : widM (maskI ts).toNat (maskI gs).toNat ≤ (1 + m).toNat := by
    rw [widM_le (by omega)]
    exact ⟨mask_lt (fun t ht => by have := ok.tr t ht; have := h t (by simp [ht]); omega) ok.tn, mask_lt (fun t ht => by have := ok.gr t ht; have := h t (by simp [ht]); omega) ok.gn⟩
  have w2 : 1 ≤ widM (maskI ts).toNat (maskI gs).toNat := by unfold widM; omega
  by_cases z : m = 0
  · omega
  · have w3 : ¬ widM (maskI ts).toNat (maskI gs).toNat ≤ m.toNat := by
      rw [widM_le (by omega), mask_lt_iff (fun t ht => (ok.tr t ht).1) ok.tn, mask_lt_iff (fun t ht => (ok.g0 t ht).1) ok.gn]
      rintro ⟨a, b⟩
      rcases List.mem_append.mp hm with q | q
      · rcases List.mem_cons.mp q with q | q
        · exact z q
        · have := a m q; omega
      · have := b m q; omega
    omega
theorem moved_ok {n : Nat} {ts gs ts' gs' : List Int} (ok : PairOk n ts gs) (ok' : PairOk n ts' gs') (n40 : n ≤ 40) :
    PairOk n (bitsL (pastM (maskI ts).toNat (maskI ts').toNat (maskI gs').toNat)) (bitsL (pastM (maskI gs).toNat (maskI gs').toNat (maskI ts').toNat)) := by
  have f := ok.flip n40
  have f' := ok'.flip n40
  have lT : pastM (maskI ts).toNat (maskI ts').toNat (maskI gs').toNat < 2 ^ n := pastM_lt (mask_lt ok.tr ok.tn) (mask_lt ok'.tr ok'.tn)
  have lG : pastM (maskI gs).toNat (maskI gs').toNat (maskI ts').toNat < 2 ^ n := pastM_lt (mask_lt ok.g0 ok.gn) (mask_lt ok'.g0 ok'.gn)
  have ev := moved_even f.ev f'.ev
  have fx := past_bit (t' := (maskI ts').toNat) f.fix f'.fix
  generalize pastM (maskI ts).toNat (maskI ts').toNat (maskI gs').toNat = T at *
  generalize pastM (maskI gs).toNat (maskI gs').toNat (maskI ts').toNat = G at *
  have le : 2 ^ n ≤ 2 ^ 64 := Nat.pow_le_pow_right (by decide) (by omega)
  have mT := mask_bits (Nat.lt_of_lt_of_le lT le)
  have mG := mask_bits (Nat.lt_of_lt_of_le lG le)
  have nT : (bitsL T).Nodup := (bits_asc T).imp fun h => by omega
  have nG : (bitsL G).Nodup := (bits_asc G).imp fun h => by omega
  have eo := oddN_count (ns := bitsL T) (ms := bitsL G) (fun t h => by have := bits_mem h; omega) nT (fun t h => (bits_mem h).1) nG
  rw [mT, mG, ev] at eo
  refine ⟨fun t h => bits_below lT h, bits_asc T, fun g h => ?_, bits_asc G, by have := of_decide_eq_false eo.symm; omega⟩
  have b := bits_below lG h
  have b0 := mask_bit 0 (fun n hn => (bits_mem hn).1) nG
  rw [mG, fx] at b0
  have b1 := of_decide_eq_false b0.symm
  refine ⟨?_, b.2⟩
  rcases Int.lt_or_eq_of_le b.1 with z | z
  · omega
  · subst z; exact absurd h b1
theorem written_tame {ts gs : List Int} (lt : ts.length ≤ 64) (lg : gs.length ≤ 64) (st : ∀ k ∈ ts, k.natAbs < 2 ^ 250) (sg : ∀ k ∈ gs, k.natAbs < 2 ^ 250) : TameL [.str (pairText ts gs), .str (pairRepr ts gs)] 1 (2 * 50001) := by
  refine tameL_of (k := 1) (m := 50000) fun e he => ?_
  have l1 := textL_len st lt
  have l2 := textL_len sg lg
  have s1 := shown_len st lt
  have s2 := shown_len sg lg
  have e0 : (">" : Str).length = 1 := by decide +kernel
  have e1 : ("Flip(tested=" : Str).length = 12 := by decide +kernel
  have e2 : (", toggled=" : Str).length = 10 := by decide +kernel
  have e3 : (")" : Str).length = 1 := by decide +kernel
  simp only [List.mem_cons, List.not_mem_nil, or_false] at he
  rcases he with rfl | rfl
  · exact tame_str (by unfold pairText; rw [len_app, len_app]; omega) (pairText_ok _ _)
  · exact tame_str (by unfold pairRepr; rw [len_app, len_app, len_app, len_app]; omega) (pairRepr_ok _ _)
theorem tame3 {ts gs ts' gs' : List Int} (lt' : ts'.length ≤ 64) (lg' : gs'.length ≤ 64) (st' : ∀ k ∈ ts', k.natAbs < 2 ^ 250) (sg' : ∀ k ∈ gs', k.natAbs < 2 ^ 250)
    (lt : ts.length ≤ 64) (lg : gs.length ≤ 64) (st : ∀ k ∈ ts, k.natAbs < 2 ^ 250) (sg : ∀ k ∈ gs, k.natAbs < 2 ^ 250) : Tame (.list ([.str (pairText ts' gs'), .str (pairRepr ts' gs')] ++ [.str (pairText ts gs)])) 2 (3 * 100003) := by
  refine tame_lst (tameL_of (k := 1) (m := 100002) fun e he => ?_)
  simp only [List.cons_append, List.nil_append, List.mem_cons, List.not_mem_nil, or_false] at he
  rcases he with rfl | rfl | rfl
  · exact (written_tame lt' lg' st' sg').get (by simp)
  · exact (written_tame lt' lg' st' sg').get (by simp)
  · exact (written_tame lt lg st sg).get (by simp)
end PC

set_option Elab.async false
set_option linter.all false
set_option maxRecDepth 100000
set_option maxHeartbeats 2000000
/-! PcK: == and != of the program's own objects, by their own __eq__. -/
namespace PC
open PySem PySem.Spec PyProof.Rows L2

section
variable {prog : Program} {w : World} {A : Around} {E : Value → Shared → Prop} {s : Shared} {K : PySem.W.Frag} {x y C f : Addr} {ox : Obj} {od : Option Obj}
/-- the built-in __ne__ asks the object's own __eq__ -/
theorem ne_asks (room : A.units < cLine) (X : K.In s.heap) (I : PySem.W.InstAt s.heap x ox C od) (own : PySem.W.findIn K (.ref C) "__eq__" = some (some (.ref f))) (fn : PySem.W.isFn K (.ref f) = true)
    {Q : Fin → Shared → Prop} (run : wpAny (model prog w) A (call (.ref f) [.ref x, .ref y]) (fun v t => ∃ b, v = .bool b ∧ Q (.done (.ret (.bool (!b)))) t) E s) :
    wpAny (model prog w) A (Builtin.«object.__ne__» ⟨[.ref x, .ref y], []⟩) Q E s := by
  have got : wpAny (model prog w) A (callSpecialIfBound? (.ref x) (Str.ofString "__eq__") [.ref y]) (fun r t => ∃ b, r = some (.bool b) ∧ Q (.done (.ret (.bool (!b)))) t) E s :=
    PySem.W.ifBound_K X I own fn (wpAny_mono run (fun v t ⟨b, e, q⟩ => ⟨b, by rw [e], q⟩) fun _ _ z => z)
  unfold Builtin.«object.__ne__»
  repeat (first
    | with_reducible refine wpAny_cRoomFor room ?_
    | (refine wpAny_bind (m := callSpecialIfBound? (.ref x) (Str.ofString "__eq__") [.ref y]) (wpAny_mono got ?_ fun _ _ z => z)
       rintro _ t ⟨b, rfl, q⟩)
    | exact q
    | (refine wpAny_bind (m := truthy (.bool _)) (wpAny_truthy_bool ?_))
    | wp_step)
theorem ne_try (room : A.units + 1 < cLine) (X : K.In s.heap) (I : PySem.W.InstAt s.heap x ox C od) (top : PySem.W.mroIn K C (.type "object") = some true)
    (own : PySem.W.findIn K (.ref C) "__eq__" = some (some (.ref f))) (fn : PySem.W.isFn K (.ref f) = true) (def_ : PySem.W.findIn K (.ref C) "__ne__" = some (some (.builtin "object.__ne__")))
    {Q : Option Value → Shared → Prop} (run : wpAny (model prog w) A.in1 (call (.ref f) [.ref x, .ref y]) (fun v t => ∃ b, v = .bool b ∧ Q (some (.bool (!b))) t) E s) :
    wpAny (model prog w) A (tryCompare (.ref x) "__ne__" (.ref y)) Q E s := by
  have asked : wpAny (model prog w) A (call (.builtin "object.__ne__") [.ref x, .ref y]) (fun v t => ∃ b, v = .bool b ∧ Q (some (.bool b)) t) E s := by
    refine wpAny_call (codeAny_call_builtin F.cmp_object.ne.plain F.cmpEntry_ne (PySem.W.check_slot F.cmpKind_ne F.cmpSplit_ne (I.type.andThen (PySem.W.looks_mroIn X top)) (F.cmpArgs_ne _ _) ?_))
    refine ne_asks (A := A.in1) room X I own fn (wpAny_mono run (fun v t ⟨b, e, q⟩ => ⟨b, e, ?_⟩) fun _ _ z => z)
    exact ⟨_, rfl, q⟩
  have fin : wpAny (model prog w) A (call (.builtin "object.__ne__") ([.ref x] ++ [.ref y]) >>= fun v => pure (some v)) (fun r t => ∃ b, r = some (.bool b) ∧ Q (some (.bool b)) t) E s :=
    wpAny_bind (wpAny_mono asked (fun v t ⟨b, e, q⟩ => wpAny_pure ⟨b, by rw [e], q⟩) fun _ _ z => z)
  have bound : wpAny (model prog w) A (callSpecialIfBound? (.ref x) "__ne__" [.ref y]) (fun r t => ∃ b, r = some (.bool b) ∧ Q (some (.bool b)) t) E s := by
    simp only [callSpecialIfBound?, bindSpecialIfBound?]
    refine wpAny_holding (wpAny_bind (wpAny_bind (wpAny_bind (I.type.here ((PySem.W.looks_findIn X def_).here ?_)))))
    refine wpAny_bind (wpAny_askSetting (wpAny_ite ?_))
    split
    · exact wpAny_bind (wpAny_of_eq (F.cmp_object.ne.bind _) (wpAny_pure (by exact fin)))
    · exact wpAny_tryCatch (wpAny_bind (wpAny_of_eq (F.cmp_object.ne.bind _) (wpAny_pure (by exact fin))))
  unfold tryCompare
  refine wpAny_bind (wpAny_mono bound ?_ fun _ _ z => z)
  rintro _ t ⟨b, rfl, q⟩
  exact wpAny_pure q
theorem ne_own {oy : Obj} {oe : Option Obj} (room : A.units + 1 < cLine) (X : K.In s.heap) (I : PySem.W.InstAt s.heap x ox C od) (J : PySem.W.InstAt s.heap y oy C oe) (top : PySem.W.mroIn K C (.type "object") = some true)
    (own : PySem.W.findIn K (.ref C) "__eq__" = some (some (.ref f))) (fn : PySem.W.isFn K (.ref f) = true) (def_ : PySem.W.findIn K (.ref C) "__ne__" = some (some (.builtin "object.__ne__")))
    {Q : Value → Shared → Prop} (run : wpAny (model prog w) A.in1 (call (.ref f) [.ref x, .ref y]) (fun v t => ∃ b, v = .bool b ∧ Q (.bool (!b)) t) E s) :
    wpAny (model prog w) A (compareOp .NotEq (.ref x) (.ref y)) Q E s := by
  unfold compareOp richCompare
  simp only [oneThing_ref]
  refine wpAny_holding (wpAny_bind (wpAny_cRoomFor (Nat.lt_of_succ_lt room) ?_))
  rw [cmpInfo_NotEq]
  dsimp only
  refine wpAny_bind (I.type.here (wpAny_bind (J.type.here ?_)))
  rw [if_neg (by simp)]
  refine wpAny_bind (wpAny_pure ?_)
  simp only [Bool.false_eq_true, if_false]
  refine wpAny_bind (ne_try room X I top own fn def_ (wpAny_mono run (fun v t ⟨b, e, q⟩ => ⟨b, e, ?_⟩) fun _ _ z => z))
  exact wpAny_pure q
end

/-- an own class with its own __eq__ at f, the built-in __ne__ -/
structure EqT (K : PySem.W.Frag) (C f : Addr) : Prop where
  own : PySem.W.findIn K (.ref C) "__eq__" = some (some (.ref f))
  fn : PySem.W.isFn K (.ref f) = true
  ne : PySem.W.findIn K (.ref C) "__ne__" = some (some (.builtin "object.__ne__"))
section
variable {X : Cx} {k : Nat} {f C : Addr} {fd : FuncData} {ps : List Str} {sp : Sp}
/-- a == b, a != b, both of the class C: the def's own answer -/
def rEqI (C : Addr) (sp : Sp) : R2 := fun x y H Q => ∃ a b dx dy fs gs, x = .ref a ∧ y = .ref b ∧ H a = some (.ins C dx fs) ∧ H b = some (.ins C dy gs) ∧ sp [.ref a, .ref b] H (fun v H' => ∃ z : Bool, v = .bl z ∧ Q (.bl z) H') E0
def rNeI (C : Addr) (sp : Sp) : R2 := fun x y H Q => ∃ a b dx dy fs gs, x = .ref a ∧ y = .ref b ∧ H a = some (.ins C dx fs) ∧ H b = some (.ins C dy gs) ∧ sp [.ref a, .ref b] H (fun v H' => ∃ z : Bool, v = .bl z ∧ Q (.bl (!z)) H') E0
theorem FnG.own2 (F : FnG X.prog X.w X.K X.mg X.base k f fd ps sp) {A : Around} (hgA : A.guards = some []) (hr : Room k A)
    (hb : Binds X.K fd ps []) {pins : List (Addr × Obj)} {σ : L2.St} {H : Hp} {s : Shared} {a b : Addr} {Q : VK} (I : Inv X pins σ H s)
    (he : Env0 X.prog X.w X.K X.mg X.base A X.stack s H) (h : sp [.ref a, .ref b] H Q E0) :
    wpAny (model X.prog X.w) A (call (.ref f) [.ref a, .ref b]) (EP X pins σ Q) X.xe s := by
  have hl : ([Value.ref a, .ref b] ++ []).length = ps.length := (F.len _ _ _ _ h).symm ▸ rfl
  refine wpAny_call (codeAny_mono (F.run A X.stack s H ⟨[.ref a, .ref b], []⟩ [.ref a, .ref b] [.ref a, .ref b] Q E0 hgA hr he (hb s [.ref a, .ref b] I.kIn hl) (.cons rfl (.cons rfl .nil)) h) fun r s' hq => ?_)
  match r, hq with
  | .error e, hq => exact passN pins σ H s e s' I hq
  | .ok (.ret u), hq => exact I.after hq
  | .ok .next, hq => exact hq.elim
  | .ok .brk, hq => exact hq.elim
  | .ok .cont, hq => exact hq.elim
theorem op_eqI (F : FnG X.prog X.w X.K X.mg X.base k f fd ps sp) (q0 : EqT X.K C f) (hg : X.A.guards = some []) (hr : Room (k + 1) X.A) (hb : Binds X.K fd ps []) : OpR X (compareOp .Eq) (rEqI C sp) := by
  intro pins s σ H x y v u Q I rx ry h
  obtain ⟨a, b, dx, dy, fs, gs, rfl, rfl, ea, eb, h⟩ := h
  cases (show v = Value.ref a from rx)
  cases (show u = Value.ref b from ry)
  obtain ⟨ox, od, J⟩ := inst_of I ea
  obtain ⟨oy, oe, J2⟩ := inst_of I eb
  obtain ⟨m, fr⟩ := I.fr
  refine PySem.W.cmp_K (op := .Eq) (tb := .ref C) hr.units0 fr I.ok.mod.kin J J2.type (by simp [PySem.W.notFirst]) q0.own q0.fn ?_
  refine wpAny_mono (F.own2 (A := X.A) hg (hr.mono (Nat.le_succ _)) hb I I.env0 h) (fun z s' hz => ?_) fun _ _ e => e
  obtain ⟨v', H', I', rv, z, rfl, q⟩ := hz
  cases rv
  exact ⟨.bl z, H', I', rfl, q⟩
theorem op_neI (F : FnG X.prog X.w X.K X.mg X.base k f fd ps sp) (q0 : EqT X.K C f) (t : InstT X.K C) (hg : X.A.guards = some []) (hr : Room (k + 1) X.A) (hb : Binds X.K fd ps []) : OpR X (compareOp .NotEq) (rNeI C sp) := by
  intro pins s σ H x y v u Q I rx ry h
  obtain ⟨a, b, dx, dy, fs, gs, rfl, rfl, ea, eb, h⟩ := h
  cases (show v = Value.ref a from rx)
  cases (show u = Value.ref b from ry)
  obtain ⟨ox, od, J⟩ := inst_of I ea
  obtain ⟨oy, oe, J2⟩ := inst_of I eb
  refine ne_own (x := a) (y := b) hr.in1.units0 I.kIn J J2 t.ob q0.own q0.fn q0.ne ?_
  refine wpAny_mono (F.own2 (A := X.A.in1) hg hr.in1 hb I I.env0.in1 h) (fun z s' hz => ?_) fun _ _ e => e
  obtain ⟨v', H', I', rv, z, rfl, q⟩ := hz
  cases rv
  exact ⟨z, rfl, .bl (!z), H', I', rfl, q⟩
end
/-! ### x in a list or a tuple of data -/
section
variable {X : Cx} {K : PySem.W.Frag} {H : Hp} {Q : VK} {x y : V} {Z : List Addr} {d : PyData} {ds : List PyData}
def rInDat (K : PySem.W.Frag) : R2 := fun x y H Q => ∃ Z d ds, One H ∧ Dat K Z H d x ∧ SeqAt.shaped d = true ∧
  ((Dat K Z H (.list ds) y ∧ SeqAt.shaped (.list ds) = true) ∨ (Dat K Z H (.tuple ds) y ∧ SeqAt.shaped (.tuple ds) = true)) ∧ Q (.bl (ds.any fun e => PyData.eqv e d)) H
theorem kx_inD {k : Nat} (hK : X.K = K) (hr : Room k X.A) : OpR X (compareOp .In) (rInDat K) := by
  subst hK
  intro pins s σ H x y v u Q I rx ry h
  obtain ⟨Z, d, ds, o1, hd, sd, hy, q⟩ := h
  obtain ⟨as, r1, _⟩ := Dat.reads I o1 d x v hd rx
  have hu := hr.un
  rcases hy with ⟨hy, sy⟩ | ⟨hy, sy⟩
  · obtain ⟨bs, r2, _⟩ := Dat.reads I o1 _ y u hy ry
    exact PySem.SeqAt.in_list_reads r2 r1 (PySem.SeqAt.canLay_of_shaped sy) (PySem.SeqAt.canLay_of_shaped sd) (PyProof.Rows.room_in_shaped sd (by omega)) ⟨.bl _, H, I, rfl, q⟩
  · obtain ⟨bs, r2, _⟩ := Dat.reads I o1 _ y u hy ry
    exact PySem.SeqAt.in_tuple_reads r2 r1 (PySem.SeqAt.canLay_of_shaped sy) (PySem.SeqAt.canLay_of_shaped sd) (PyProof.Rows.room_in_shaped sd (by omega)) ⟨.bl _, H, I, rfl, q⟩
def rNotInDat (K : PySem.W.Frag) : R2 := fun x y H Q => ∃ Z d ds, One H ∧ Dat K Z H d x ∧ SeqAt.shaped d = true ∧
  ((Dat K Z H (.list ds) y ∧ SeqAt.shaped (.list ds) = true) ∨ (Dat K Z H (.tuple ds) y ∧ SeqAt.shaped (.tuple ds) = true)) ∧ Q (.bl (!ds.any fun e => PyData.eqv e d)) H
theorem kx_notInD {k : Nat} (hK : X.K = K) (hr : Room k X.A) : OpR X (compareOp .NotIn) (rNotInDat K) := by
  subst hK
  intro pins s σ H x y v u Q I rx ry h
  obtain ⟨Z, d, ds, o1, hd, sd, hy, q⟩ := h
  obtain ⟨as, r1, _⟩ := Dat.reads I o1 d x v hd rx
  have hu := hr.un
  rcases hy with ⟨hy, sy⟩ | ⟨hy, sy⟩
  · obtain ⟨bs, r2, _⟩ := Dat.reads I o1 _ y u hy ry
    exact PySem.SeqAt.notIn_list_reads r2 r1 (PySem.SeqAt.canLay_of_shaped sy) (PySem.SeqAt.canLay_of_shaped sd) (PyProof.Rows.room_in_shaped sd (by omega)) ⟨.bl _, H, I, rfl, q⟩
  · obtain ⟨bs, r2, _⟩ := Dat.reads I o1 _ y u hy ry
    exact PySem.SeqAt.notIn_tuple_reads r2 r1 (PySem.SeqAt.canLay_of_shaped sy) (PySem.SeqAt.canLay_of_shaped sd) (PyProof.Rows.room_in_shaped sd (by omega)) ⟨.bl _, H, I, rfl, q⟩
end
/-! ### name op= int -/
section
variable {X : Cx}
theorem ip_xor : PIp X .BitXor (ipI fun i j => Builtin.bitXor i j) := by
  intro pins s σ H x y v u Q I r1 r2 h
  obtain ⟨i, j, e1, e2, q⟩ := h
  subst e1; subst e2
  obtain ⟨t, rfl⟩ := r1
  obtain ⟨t', rfl⟩ := r2
  exact PyProof.Rows.ixor_int ⟨.int _, H, I.tok _, ⟨_, rfl⟩, q⟩
theorem ip_or : PIp X .BitOr (ipI fun i j => Builtin.bitOr i j) := by
  intro pins s σ H x y v u Q I r1 r2 h
  obtain ⟨i, j, e1, e2, q⟩ := h
  subst e1; subst e2
  obtain ⟨t, rfl⟩ := r1
  obtain ⟨t', rfl⟩ := r2
  exact PyProof.Rows.ior_int ⟨.int _, H, I.tok _, ⟨_, rfl⟩, q⟩
end
end PC

set_option Elab.async false
set_option linter.all false
set_option maxRecDepth 100000
set_option maxHeartbeats 4000000
namespace PX
open PySem PySem.Spec PyProof.Rows L2 PC
local macro_rules | `(tactic| wtm_at "v1") => `(tactic| with_reducible first
  | refine s_seq ?_ | refine s_asg ?_ | refine s_gname ?_ | refine s_ifS ?_ | refine s_ret ?_ | refine s_drop ?_ | refine s_next ?_ | refine s_par ?_
  | refine s_c ?_ | refine s_op ?_ | refine s_un ?_ | refine s_nil ?_ | refine s_cons ?_ | refine s_cb ?_ | refine s_ck ?_
  | refine s_if ?_ | refine s_andV ?_ | refine s_orV ?_ | refine s_notV ?_ | refine s_chain ?_ | refine s_lst ?_ | refine s_tup ?_
  | refine s_slice ?_ | refine s_part ?_ | refine s_noPart ?_ | refine s_test ?_ | refine s_tB ?_ | refine s_not ?_ | refine s_and ?_ | refine s_or ?_ | refine s_retN ?_
  | refine s_rI0 ?_ | refine s_rU ?_ | refine s_add_int ?_ | refine s_eq_int ?_ | refine s_ne_int ?_ | refine s_eq_str ?_ | refine s_ne_str ?_
  | refine s_gcons ?_ | refine s_gnil ?_ | refine s_gsub ?_
  | refine s_yes ?_ | refine s_in_c ?_ | refine s_notIn_c ?_
  | refine s_tlc ?_ | refine s_iStr ?_ | refine s_iList ?_ | refine s_iTup ?_ | refine s_iRng1 ?_ | refine s_iRng2 ?_ | refine s_for ?_
  | refine s_ms ?_ | refine s_mks ?_ | refine s_fld ?_ | refine s_sfld ?_ | refine s_m1 ?_ | refine s_bits ?_ | refine s_cs ?_ | refine s_cks ?_ | refine s_bm ?_ | refine s_bm0 ?_ | refine s_iZip ?_ | refine s_lstRg ?_ | refine s_rg1 ?_ | refine s_rg2 ?_ | refine s_raise ?_ | refine s_xf ?_
  | refine iteT ?_ | refine iteF ?_ | refine ite_nf ?_ | refine ite_nt ?_)
/-! a side condition of an operation -/
local macro_rules | `(tactic| wtm_at "sc") => `(tactic| first
  | (show (0 : Int) < _; first | decide | omega)
  | exact cmul_r (by decide) (by decide) | exact cmul_l (by decide) (by decide) | exact cmul_r (by omega) (by omega) | exact cmul_l (by omega) (by omega)
  | exact cpow (by decide) (by decide) (by decide) | exact cdw (by decide) (by decide) | exact cdw (by omega) (by omega))
local macro_rules | `(tactic| wtm_at "v2") => `(tactic| first
  | wtm_at "v1"
  | (with_reducible refine s_var (by with_unfolding_all rfl) ?_)
  | ((with_reducible apply s_rI); focus (with_unfolding_all wtm_at "sc"))
  | (with_reducible refine ⟨_, rfl, ?_⟩)
  | (with_reducible refine ⟨⟨_, rfl⟩, ?_⟩)
  | (with_reducible refine ⟨_, _, rfl, ?_⟩))
local macro_rules | `(tactic| wtm_at "v") => `(tactic| repeat wtm_at "v2")
/-! the world, the store of draws, a datum, behind the steps that were made -/
local macro_rules | `(tactic| wtm_at "r") => `(tactic| first
  | exact R.refl _ _
  | assumption
  | exact R.of_same (by assumption)
  | (refine R.trans ?_ (by assumption); wtm_at "r")
  | (refine R.trans ?_ (R.of_same (by assumption)); wtm_at "r"))

/-! ### the text -/
def topS (i : Nat) : Stmt := PySem.Challenge.pw_paritycells_k22_whole_moved_past.main.body.getD i (.Pass ⟨0, 0, 0, 0⟩)
def clsB : Stmt → List Stmt
  | .ClassDef (body := b) .. => b
  | _ => []
def clsS (i j : Nat) : Stmt := (clsB (topS i)).getD j (.Pass ⟨0, 0, 0, 0⟩)
abbrev st__law_pot : Stmt := topS 42
abbrev N__law_pot : List Str := ["_law_script", "_law_k", "_law_number"]
theorem sc__law_pot : FnScope N__law_pot ["_law_script", "_law_k"] (defScope st__law_pot) :=
  ⟨rfl, rfl, rfl, by decide +kernel, rfl, by decide +kernel, by decide +kernel⟩
abbrev st__law_draw : Stmt := topS 43
abbrev N__law_draw : List Str := ["_law_pot_here", "_law_many", "_law_digit"]
theorem sc__law_draw : FnScope N__law_draw ["_law_pot_here", "_law_many"] (defScope st__law_draw) :=
  ⟨rfl, rfl, rfl, by decide +kernel, rfl, by decide +kernel, by decide +kernel⟩
abbrev st__law_width : Stmt := topS 44
abbrev N__law_width : List Str := ["_law_pot_here", "_law_most"]
theorem sc__law_width : FnScope N__law_width ["_law_pot_here", "_law_most"] (defScope st__law_width) :=
  ⟨rfl, rfl, rfl, by decide +kernel, rfl, by decide +kernel, by decide +kernel⟩
abbrev st__law_all_bits : Stmt := topS 48
abbrev N__law_all_bits : List Str := ["_law_width_here", "_law_number", "_law_spot"]
theorem sc__law_all_bits : FnScope N__law_all_bits ["_law_width_here"] (defScope st__law_all_bits) :=
  ⟨rfl, rfl, rfl, by decide +kernel, rfl, by decide +kernel, by decide +kernel⟩
abbrev st__law_bits : Stmt := topS 47
abbrev N__law_bits : List Str := ["_law_pot_here", "_law_width_here", "_law_spot"]
theorem sc__law_bits : FnScope N__law_bits ["_law_pot_here", "_law_width_here"] (defScope st__law_bits) :=
  ⟨rfl, rfl, rfl, by decide +kernel, rfl, by decide +kernel, by decide +kernel⟩
abbrev st__law_spots : Stmt := topS 45
abbrev N__law_spots : List Str := ["_law_pot_here", "_law_least", "_law_width_here", "_law_way", "_law_spot"]
theorem sc__law_spots : FnScope N__law_spots ["_law_pot_here", "_law_least", "_law_width_here"] (defScope st__law_spots) :=
  ⟨rfl, rfl, rfl, by decide +kernel, rfl, by decide +kernel, by decide +kernel⟩
abbrev st__law_pair : Stmt := topS 46
abbrev N__law_pair : List Str := ["_law_pot_here", "_law_width_here", "_law_tests", "_law_hits", "_law_both", "_law_spot", "_law_gone"]
theorem sc__law_pair : FnScope N__law_pair ["_law_pot_here", "_law_width_here"] (defScope st__law_pair) :=
  ⟨rfl, rfl, rfl, by decide +kernel, rfl, by decide +kernel, by decide +kernel⟩
abbrev st_mask_of_cells : Stmt := topS 14
abbrev N_mask_of_cells : List Str := ["cells", "cell"]
theorem sc_mask_of_cells : FnScope N_mask_of_cells ["cells"] (defScope st_mask_of_cells) :=
  ⟨rfl, rfl, rfl, by decide +kernel, rfl, by decide +kernel, by decide +kernel⟩
abbrev st_is_integer_in : Stmt := topS 10
abbrev N_is_integer_in : List Str := ["thing", "low", "high"]
theorem sc_is_integer_in : FnScope N_is_integer_in ["thing", "low", "high"] (defScope st_is_integer_in) :=
  ⟨rfl, rfl, rfl, by decide +kernel, rfl, by decide +kernel, by decide +kernel⟩
abbrev st_is_cell : Stmt := topS 11
abbrev N_is_cell : List Str := ["thing", "size"]
theorem sc_is_cell : FnScope N_is_cell ["thing", "size"] (defScope st_is_cell) :=
  ⟨rfl, rfl, rfl, by decide +kernel, rfl, by decide +kernel, by decide +kernel⟩
abbrev st_cell_tuple : Stmt := topS 20
abbrev N_cell_tuple : List Str := ["things", "size", "one", "found", "other"]
theorem sc_cell_tuple : FnScope N_cell_tuple ["things", "size"] (defScope st_cell_tuple) :=
  ⟨rfl, rfl, rfl, by decide +kernel, rfl, by decide +kernel, by decide +kernel⟩
abbrev st_cell_mask : Stmt := topS 21
abbrev N_cell_mask : List Str := ["things", "size"]
theorem sc_cell_mask : FnScope N_cell_mask ["things", "size"] (defScope st_cell_mask) :=
  ⟨rfl, rfl, rfl, by decide +kernel, rfl, by decide +kernel, by decide +kernel⟩
abbrev st_is_odd_cells : Stmt := topS 18
abbrev N_is_odd_cells : List Str := ["mask", "rest", "found"]
theorem sc_is_odd_cells : FnScope N_is_odd_cells ["mask"] (defScope st_is_odd_cells) :=
  ⟨rfl, rfl, rfl, by decide +kernel, rfl, by decide +kernel, by decide +kernel⟩
abbrev st_Flip____init__ : Stmt := clsS 27 0
abbrev N_Flip____init__ : List Str := ["self", "tested", "toggled"]
theorem sc_Flip____init__ : FnScope N_Flip____init__ ["self", "tested", "toggled"] (defScope st_Flip____init__) :=
  ⟨rfl, rfl, rfl, by decide +kernel, rfl, by decide +kernel, by decide +kernel⟩
abbrev st__law_flip_of : Stmt := topS 54
abbrev N__law_flip_of : List Str := ["_law_pair_here"]
theorem sc__law_flip_of : FnScope N__law_flip_of ["_law_pair_here"] (defScope st__law_flip_of) :=
  ⟨rfl, rfl, rfl, by decide +kernel, rfl, by decide +kernel, by decide +kernel⟩
abbrev st__law_added : Stmt := topS 56
abbrev N__law_added : List Str := ["_law_some", "_law_more", "_law_spot"]
theorem sc__law_added : FnScope N__law_added ["_law_some", "_law_more"] (defScope st__law_added) :=
  ⟨rfl, rfl, rfl, by decide +kernel, rfl, by decide +kernel, by decide +kernel⟩
abbrev st__law_past : Stmt := topS 57
abbrev N__law_past : List Str := ["_law_spots_here", "_law_pair_here", "_law_shared", "_law_spot"]
theorem sc__law_past : FnScope N__law_past ["_law_spots_here", "_law_pair_here"] (defScope st__law_past) :=
  ⟨rfl, rfl, rfl, by decide +kernel, rfl, by decide +kernel, by decide +kernel⟩
abbrev st__law_pair_past : Stmt := topS 58
abbrev N__law_pair_past : List Str := ["_law_pair_here", "_law_after_here", "_law_shared", "_law_spot", "_law_hits"]
theorem sc__law_pair_past : FnScope N__law_pair_past ["_law_pair_here", "_law_after_here"] (defScope st__law_pair_past) :=
  ⟨rfl, rfl, rfl, by decide +kernel, rfl, by decide +kernel, by decide +kernel⟩
abbrev st_cells_in_cells : Stmt := topS 16
abbrev N_cells_in_cells : List Str := ["mask", "cell"]
theorem sc_cells_in_cells : FnScope N_cells_in_cells ["mask"] (defScope st_cells_in_cells) :=
  ⟨rfl, rfl, rfl, by decide +kernel, rfl, by decide +kernel, by decide +kernel⟩
abbrev st_Flip__toggled : Stmt := clsS 27 2
abbrev N_Flip__toggled : List Str := ["self"]
theorem sc_Flip__toggled : FnScope N_Flip__toggled ["self"] (defScope st_Flip__toggled) :=
  ⟨rfl, rfl, rfl, by decide +kernel, rfl, by decide +kernel, by decide +kernel⟩
abbrev st_Flip__tested : Stmt := clsS 27 1
abbrev N_Flip__tested : List Str := ["self"]
theorem sc_Flip__tested : FnScope N_Flip__tested ["self"] (defScope st_Flip__tested) :=
  ⟨rfl, rfl, rfl, by decide +kernel, rfl, by decide +kernel, by decide +kernel⟩
abbrev st_Flip____repr__ : Stmt := clsS 27 6
abbrev N_Flip____repr__ : List Str := ["self"]
theorem sc_Flip____repr__ : FnScope N_Flip____repr__ ["self"] (defScope st_Flip____repr__) :=
  ⟨rfl, rfl, rfl, by decide +kernel, rfl, by decide +kernel, by decide +kernel⟩
abbrev st_mask_text : Stmt := topS 22
abbrev N_mask_text : List Str := ["mask", "cell"]
theorem sc_mask_text : FnScope N_mask_text ["mask"] (defScope st_mask_text) :=
  ⟨rfl, rfl, rfl, by decide +kernel, rfl, by decide +kernel, by decide +kernel⟩
abbrev st_Flip____str__ : Stmt := clsS 27 7
abbrev N_Flip____str__ : List Str := ["self"]
theorem sc_Flip____str__ : FnScope N_Flip____str__ ["self"] (defScope st_Flip____str__) :=
  ⟨rfl, rfl, rfl, by decide +kernel, rfl, by decide +kernel, by decide +kernel⟩
abbrev st__law_text_of : Stmt := topS 60
abbrev N__law_text_of : List Str := ["_law_spots_here", "_law_spot"]
theorem sc__law_text_of : FnScope N__law_text_of ["_law_spots_here"] (defScope st__law_text_of) :=
  ⟨rfl, rfl, rfl, by decide +kernel, rfl, by decide +kernel, by decide +kernel⟩
abbrev st__law_pair_text : Stmt := topS 61
abbrev N__law_pair_text : List Str := ["_law_pair_here"]
theorem sc__law_pair_text : FnScope N__law_pair_text ["_law_pair_here"] (defScope st__law_pair_text) :=
  ⟨rfl, rfl, rfl, by decide +kernel, rfl, by decide +kernel, by decide +kernel⟩
abbrev st__law_written : Stmt := topS 62
abbrev N__law_written : List Str := ["_law_pair_here"]
theorem sc__law_written : FnScope N__law_written ["_law_pair_here"] (defScope st__law_written) :=
  ⟨rfl, rfl, rfl, by decide +kernel, rfl, by decide +kernel, by decide +kernel⟩
abbrev st_mask_of_sequences : Stmt := topS 32
abbrev N_mask_of_sequences : List Str := ["spots", "spot"]
theorem sc_mask_of_sequences : FnScope N_mask_of_sequences ["spots"] (defScope st_mask_of_sequences) :=
  ⟨rfl, rfl, rfl, by decide +kernel, rfl, by decide +kernel, by decide +kernel⟩
abbrev st_cells_in_sequences : Stmt := topS 34
abbrev N_cells_in_sequences : List Str := ["mask", "spot"]
theorem sc_cells_in_sequences : FnScope N_cells_in_sequences ["mask"] (defScope st_cells_in_sequences) :=
  ⟨rfl, rfl, rfl, by decide +kernel, rfl, by decide +kernel, by decide +kernel⟩
abbrev st_is_odd_sequences : Stmt := topS 36
abbrev N_is_odd_sequences : List Str := ["mask"]
theorem sc_is_odd_sequences : FnScope N_is_odd_sequences ["mask"] (defScope st_is_odd_sequences) :=
  ⟨rfl, rfl, rfl, by decide +kernel, rfl, by decide +kernel, by decide +kernel⟩
abbrev st_mask_past : Stmt := topS 39
abbrev N_mask_past : List Str := ["mask", "later"]
theorem sc_mask_past : FnScope N_mask_past ["mask", "later"] (defScope st_mask_past) :=
  ⟨rfl, rfl, rfl, by decide +kernel, rfl, by decide +kernel, by decide +kernel⟩
abbrev st_moved_past : Stmt := topS 40
abbrev N_moved_past : List Str := ["flip", "later", "tested", "toggled"]
theorem sc_moved_past : FnScope N_moved_past ["flip", "later"] (defScope st_moved_past) :=
  ⟨rfl, rfl, rfl, by decide +kernel, rfl, by decide +kernel, by decide +kernel⟩
abbrev st_Flip____eq__ : Stmt := clsS 27 5
abbrev N_Flip____eq__ : List Str := ["self", "other"]
theorem sc_Flip____eq__ : FnScope N_Flip____eq__ ["self", "other"] (defScope st_Flip____eq__) :=
  ⟨rfl, rfl, rfl, by decide +kernel, rfl, by decide +kernel, by decide +kernel⟩
abbrev st_Flip__is_idle : Stmt := clsS 27 3
abbrev N_Flip__is_idle : List Str := ["self"]
theorem sc_Flip__is_idle : FnScope N_Flip__is_idle ["self"] (defScope st_Flip__is_idle) :=
  ⟨rfl, rfl, rfl, by decide +kernel, rfl, by decide +kernel, by decide +kernel⟩
abbrev st_Flip__width : Stmt := clsS 27 4
abbrev N_Flip__width : List Str := ["self"]
theorem sc_Flip__width : FnScope N_Flip__width ["self"] (defScope st_Flip__width) :=
  ⟨rfl, rfl, rfl, by decide +kernel, rfl, by decide +kernel, by decide +kernel⟩
abbrev st__law_is_pair : Stmt := topS 59
abbrev N__law_is_pair : List Str := ["_law_found", "_law_pair_here", "_law_told", "_law_wide"]
theorem sc__law_is_pair : FnScope N__law_is_pair ["_law_found", "_law_pair_here"] (defScope st__law_is_pair) :=
  ⟨rfl, rfl, rfl, by decide +kernel, rfl, by decide +kernel, by decide +kernel⟩
abbrev st__law_parity : Stmt := topS 49
abbrev N__law_parity : List Str := ["_law_bits_here", "_law_spots_here", "_law_spot"]
theorem sc__law_parity : FnScope N__law_parity ["_law_bits_here", "_law_spots_here"] (defScope st__law_parity) :=
  ⟨rfl, rfl, rfl, by decide +kernel, rfl, by decide +kernel, by decide +kernel⟩
abbrev st__law_after : Stmt := topS 50
abbrev N__law_after : List Str := ["_law_bits_here", "_law_pair_here", "_law_spot", "_law_bit"]
theorem sc__law_after : FnScope N__law_after ["_law_bits_here", "_law_pair_here"] (defScope st__law_after) :=
  ⟨rfl, rfl, rfl, by decide +kernel, rfl, by decide +kernel, by decide +kernel⟩
abbrev st__law_after_all : Stmt := topS 51
abbrev N__law_after_all : List Str := ["_law_bits_here", "_law_pairs", "_law_found", "_law_pair_here"]
theorem sc__law_after_all : FnScope N__law_after_all ["_law_bits_here", "_law_pairs"] (defScope st__law_after_all) :=
  ⟨rfl, rfl, rfl, by decide +kernel, rfl, by decide +kernel, by decide +kernel⟩
abbrev st_Board__size : Stmt := clsS 24 1
abbrev N_Board__size : List Str := ["self"]
theorem sc_Board__size : FnScope N_Board__size ["self"] (defScope st_Board__size) :=
  ⟨rfl, rfl, rfl, by decide +kernel, rfl, by decide +kernel, by decide +kernel⟩
abbrev st_require_cell : Stmt := topS 13
abbrev N_require_cell : List Str := ["cell", "low", "size"]
theorem sc_require_cell : FnScope N_require_cell ["cell", "low", "size"] (defScope st_require_cell) :=
  ⟨rfl, rfl, rfl, by decide +kernel, rfl, by decide +kernel, by decide +kernel⟩
abbrev st_Board__is_up : Stmt := clsS 24 3
abbrev N_Board__is_up : List Str := ["self", "cell"]
theorem sc_Board__is_up : FnScope N_Board__is_up ["self", "cell"] (defScope st_Board__is_up) :=
  ⟨rfl, rfl, rfl, by decide +kernel, rfl, by decide +kernel, by decide +kernel⟩
abbrev st_Board__parity : Stmt := clsS 24 4
abbrev N_Board__parity : List Str := ["self", "cells"]
theorem sc_Board__parity : FnScope N_Board__parity ["self", "cells"] (defScope st_Board__parity) :=
  ⟨rfl, rfl, rfl, by decide +kernel, rfl, by decide +kernel, by decide +kernel⟩
abbrev st_Board__up : Stmt := clsS 24 2
abbrev N_Board__up : List Str := ["self"]
theorem sc_Board__up : FnScope N_Board__up ["self"] (defScope st_Board__up) :=
  ⟨rfl, rfl, rfl, by decide +kernel, rfl, by decide +kernel, by decide +kernel⟩
abbrev st__law_up : Stmt := topS 52
abbrev N__law_up : List Str := ["_law_bits_here", "_law_spot", "_law_bit"]
theorem sc__law_up : FnScope N__law_up ["_law_bits_here"] (defScope st__law_up) :=
  ⟨rfl, rfl, rfl, by decide +kernel, rfl, by decide +kernel, by decide +kernel⟩
abbrev st__law_is_so : Stmt := topS 55
abbrev N__law_is_so : List Str := ["_law_found", "_law_bits_here", "_law_told", "_law_spot", "_law_bit"]
theorem sc__law_is_so : FnScope N__law_is_so ["_law_found", "_law_bits_here"] (defScope st__law_is_so) :=
  ⟨rfl, rfl, rfl, by decide +kernel, rfl, by decide +kernel, by decide +kernel⟩
abbrev st_require_fit : Stmt := topS 28
abbrev N_require_fit : List Str := ["flip", "size"]
theorem sc_require_fit : FnScope N_require_fit ["flip", "size"] (defScope st_require_fit) :=
  ⟨rfl, rfl, rfl, by decide +kernel, rfl, by decide +kernel, by decide +kernel⟩
abbrev st_require_size : Stmt := topS 12
abbrev N_require_size : List Str := ["size"]
theorem sc_require_size : FnScope N_require_size ["size"] (defScope st_require_size) :=
  ⟨rfl, rfl, rfl, by decide +kernel, rfl, by decide +kernel, by decide +kernel⟩
abbrev st_Board____init__ : Stmt := clsS 24 0
abbrev N_Board____init__ : List Str := ["self", "size", "up"]
theorem sc_Board____init__ : FnScope N_Board____init__ ["self", "size", "up"] (defScope st_Board____init__) :=
  ⟨rfl, rfl, rfl, by decide +kernel, rfl, by decide +kernel, by decide +kernel⟩
abbrev st_board_of : Stmt := topS 25
abbrev N_board_of : List Str := ["size", "mask"]
theorem sc_board_of : FnScope N_board_of ["size", "mask"] (defScope st_board_of) :=
  ⟨rfl, rfl, rfl, by decide +kernel, rfl, by decide +kernel, by decide +kernel⟩
abbrev st_mask_after : Stmt := topS 29
abbrev N_mask_after : List Str := ["up_mask", "flip"]
theorem sc_mask_after : FnScope N_mask_after ["up_mask", "flip"] (defScope st_mask_after) :=
  ⟨rfl, rfl, rfl, by decide +kernel, rfl, by decide +kernel, by decide +kernel⟩
abbrev st_apply_flip : Stmt := topS 30
abbrev N_apply_flip : List Str := ["board", "flip"]
theorem sc_apply_flip : FnScope N_apply_flip ["board", "flip"] (defScope st_apply_flip) :=
  ⟨rfl, rfl, rfl, by decide +kernel, rfl, by decide +kernel, by decide +kernel⟩
abbrev st_apply_flips : Stmt := topS 38
abbrev N_apply_flips : List Str := ["board", "flips", "found", "flip"]
theorem sc_apply_flips : FnScope N_apply_flips ["board", "flips"] (defScope st_apply_flips) :=
  ⟨rfl, rfl, rfl, by decide +kernel, rfl, by decide +kernel, by decide +kernel⟩
abbrev st__law_made : Stmt := topS 53
abbrev N__law_made : List Str := ["_law_bits_here"]
theorem sc__law_made : FnScope N__law_made ["_law_bits_here"] (defScope st__law_made) :=
  ⟨rfl, rfl, rfl, by decide +kernel, rfl, by decide +kernel, by decide +kernel⟩
abbrev st__law_right : Stmt := topS 63
abbrev N__law_right : List Str := ["_law_pair_here", "_law_after_here", "_law_some", "_law_one", "_law_two", "_law_own", "_law_moved", "_law_bits_here", "_law_due"]
theorem sc__law_right : FnScope N__law_right ["_law_pair_here", "_law_after_here", "_law_some"] (defScope st__law_right) :=
  ⟨rfl, rfl, rfl, by decide +kernel, rfl, by decide +kernel, by decide +kernel⟩
abbrev st_law : Stmt := topS 64
abbrev N_law : List Str := ["_law_script", "_law_k", "_law_pot_here", "_law_width_here", "_law_some", "_law_turn", "_law_pair_here", "_law_after_here"]
theorem sc_law : FnScope N_law ["_law_script"] (defScope st_law) :=
  ⟨rfl, rfl, rfl, by decide +kernel, rfl, by decide +kernel, by decide +kernel⟩
abbrev st_NoSize : Stmt := clsS 3 0
theorem d_NoSize : ErDef st_NoSize "NoSize.__init__" "CellError" "value" [] where
  bind := fun _ _ _ _ _ _ us h => match us, h with | [_, _], _ => rfl
  co := rfl
  gen := rfl
  kind := rfl
  loc := by decide +kernel
  glo := rfl
  nd := by decide +kernel
  few := by decide
  ndb := by decide +kernel
  hi := fun _ _ _ => rfl
  body := ⟨_, _, _, _, _, _, _, _, (_, _, _, _), [], _, rfl, by refine ⟨?_, rfl⟩; exact fun _ _ _ => rfl⟩
abbrev st_NoCell : Stmt := clsS 4 0
theorem d_NoCell : ErDef st_NoCell "NoCell.__init__" "CellError" "cell" [] where
  bind := fun _ _ _ _ _ _ us h => match us, h with | [_, _], _ => rfl
  co := rfl
  gen := rfl
  kind := rfl
  loc := by decide +kernel
  glo := rfl
  nd := by decide +kernel
  few := by decide
  ndb := by decide +kernel
  hi := fun _ _ _ => rfl
  body := ⟨_, _, _, _, _, _, _, _, (_, _, _, _), [], _, rfl, by refine ⟨?_, rfl⟩; exact fun _ _ _ => rfl⟩
abbrev st_NoCells : Stmt := clsS 5 0
theorem d_NoCells : ErDef st_NoCells "NoCells.__init__" "CellError" "cells" [] where
  bind := fun _ _ _ _ _ _ us h => match us, h with | [_, _], _ => rfl
  co := rfl
  gen := rfl
  kind := rfl
  loc := by decide +kernel
  glo := rfl
  nd := by decide +kernel
  few := by decide
  ndb := by decide +kernel
  hi := fun _ _ _ => rfl
  body := ⟨_, _, _, _, _, _, _, _, (_, _, _, _), [], _, rfl, by refine ⟨?_, rfl⟩; exact fun _ _ _ => rfl⟩
abbrev st_NoFlip : Stmt := clsS 6 0
theorem d_NoFlip : ErDef st_NoFlip "NoFlip.__init__" "CellError" "why" [] where
  bind := fun _ _ _ _ _ _ us h => match us, h with | [_, _], _ => rfl
  co := rfl
  gen := rfl
  kind := rfl
  loc := by decide +kernel
  glo := rfl
  nd := by decide +kernel
  few := by decide
  ndb := by decide +kernel
  hi := fun _ _ _ => rfl
  body := ⟨_, _, _, _, _, _, _, _, (_, _, _, _), [], _, rfl, by refine ⟨?_, rfl⟩; exact fun _ _ _ => rfl⟩
abbrev st_TooWide : Stmt := clsS 7 0
theorem d_TooWide : ErDef st_TooWide "TooWide.__init__" "LimitError" "needed" [] where
  bind := fun _ _ _ _ _ _ us h => match us, h with | [_, _], _ => rfl
  co := rfl
  gen := rfl
  kind := rfl
  loc := by decide +kernel
  glo := rfl
  nd := by decide +kernel
  few := by decide
  ndb := by decide +kernel
  hi := fun _ _ _ => rfl
  body := ⟨_, _, _, _, _, _, _, _, (_, _, _, _), [], _, rfl, by refine ⟨?_, rfl⟩; exact fun _ _ _ => rfl⟩
/-- where the classes stand -/
structure Cl where
  CellError : Addr
  LimitError : Addr
  NoSize : Addr
  NoCell : Addr
  NoCells : Addr
  NoFlip : Addr
  TooWide : Addr
  Board : Addr
  Flip : Addr
  d_Board____init___up : Addr
/-- where the text's defs stand; what is still the built-in -/
structure Tx (K : PySem.W.Frag) (mg : Str → Option Value) (cl : Cl) where
  a__law_pot : Addr
  fd__law_pot : FuncData
  F__law_pot : Fun K "_law_pot" "_law_pot" st__law_pot a__law_pot fd__law_pot
  g__law_pot : mg "_law_pot" = some (.ref a__law_pot)
  a__law_draw : Addr
  fd__law_draw : FuncData
  F__law_draw : Fun K "_law_draw" "_law_draw" st__law_draw a__law_draw fd__law_draw
  g__law_draw : mg "_law_draw" = some (.ref a__law_draw)
  a__law_width : Addr
  fd__law_width : FuncData
  F__law_width : Fun K "_law_width" "_law_width" st__law_width a__law_width fd__law_width
  g__law_width : mg "_law_width" = some (.ref a__law_width)
  a__law_all_bits : Addr
  fd__law_all_bits : FuncData
  F__law_all_bits : Fun K "_law_all_bits" "_law_all_bits" st__law_all_bits a__law_all_bits fd__law_all_bits
  g__law_all_bits : mg "_law_all_bits" = some (.ref a__law_all_bits)
  a__law_bits : Addr
  fd__law_bits : FuncData
  F__law_bits : Fun K "_law_bits" "_law_bits" st__law_bits a__law_bits fd__law_bits
  g__law_bits : mg "_law_bits" = some (.ref a__law_bits)
  a__law_spots : Addr
  fd__law_spots : FuncData
  F__law_spots : Fun K "_law_spots" "_law_spots" st__law_spots a__law_spots fd__law_spots
  g__law_spots : mg "_law_spots" = some (.ref a__law_spots)
  a__law_pair : Addr
  fd__law_pair : FuncData
  F__law_pair : Fun K "_law_pair" "_law_pair" st__law_pair a__law_pair fd__law_pair
  g__law_pair : mg "_law_pair" = some (.ref a__law_pair)
  a_mask_of_cells : Addr
  fd_mask_of_cells : FuncData
  F_mask_of_cells : Fun K "mask_of" "mask_of" st_mask_of_cells a_mask_of_cells fd_mask_of_cells
  g_mask_of_cells : mg "mask_of_cells" = some (.ref a_mask_of_cells)
  a_is_integer_in : Addr
  fd_is_integer_in : FuncData
  F_is_integer_in : Fun K "is_integer_in" "is_integer_in" st_is_integer_in a_is_integer_in fd_is_integer_in
  g_is_integer_in : mg "is_integer_in" = some (.ref a_is_integer_in)
  a_is_cell : Addr
  fd_is_cell : FuncData
  F_is_cell : Fun K "is_cell" "is_cell" st_is_cell a_is_cell fd_is_cell
  g_is_cell : mg "is_cell" = some (.ref a_is_cell)
  D_is_cell : FunD K "is_cell" "is_cell" (defArgs st_is_cell) (defBody st_is_cell) (defScope st_is_cell) [] [("size", V.int 40)] a_is_cell fd_is_cell
  a_cell_tuple : Addr
  fd_cell_tuple : FuncData
  F_cell_tuple : Fun K "cell_tuple" "cell_tuple" st_cell_tuple a_cell_tuple fd_cell_tuple
  g_cell_tuple : mg "cell_tuple" = some (.ref a_cell_tuple)
  D_cell_tuple : FunD K "cell_tuple" "cell_tuple" (defArgs st_cell_tuple) (defBody st_cell_tuple) (defScope st_cell_tuple) [] [("size", V.int 40)] a_cell_tuple fd_cell_tuple
  a_cell_mask : Addr
  fd_cell_mask : FuncData
  F_cell_mask : Fun K "cell_mask" "cell_mask" st_cell_mask a_cell_mask fd_cell_mask
  g_cell_mask : mg "cell_mask" = some (.ref a_cell_mask)
  a_is_odd_cells : Addr
  fd_is_odd_cells : FuncData
  F_is_odd_cells : Fun K "is_odd" "is_odd" st_is_odd_cells a_is_odd_cells fd_is_odd_cells
  g_is_odd_cells : mg "is_odd_cells" = some (.ref a_is_odd_cells)
  a_Flip____init__ : Addr
  fd_Flip____init__ : FuncData
  F_Flip____init__ : Fun K "__init__" "Flip.__init__" st_Flip____init__ a_Flip____init__ fd_Flip____init__
  mk_Flip : Mk K cl.Flip a_Flip____init__
  a__law_flip_of : Addr
  fd__law_flip_of : FuncData
  F__law_flip_of : Fun K "_law_flip_of" "_law_flip_of" st__law_flip_of a__law_flip_of fd__law_flip_of
  g__law_flip_of : mg "_law_flip_of" = some (.ref a__law_flip_of)
  a__law_added : Addr
  fd__law_added : FuncData
  F__law_added : Fun K "_law_added" "_law_added" st__law_added a__law_added fd__law_added
  g__law_added : mg "_law_added" = some (.ref a__law_added)
  a__law_past : Addr
  fd__law_past : FuncData
  F__law_past : Fun K "_law_past" "_law_past" st__law_past a__law_past fd__law_past
  g__law_past : mg "_law_past" = some (.ref a__law_past)
  a__law_pair_past : Addr
  fd__law_pair_past : FuncData
  F__law_pair_past : Fun K "_law_pair_past" "_law_pair_past" st__law_pair_past a__law_pair_past fd__law_pair_past
  g__law_pair_past : mg "_law_pair_past" = some (.ref a__law_pair_past)
  a_cells_in_cells : Addr
  fd_cells_in_cells : FuncData
  F_cells_in_cells : Fun K "cells_in" "cells_in" st_cells_in_cells a_cells_in_cells fd_cells_in_cells
  g_cells_in_cells : mg "cells_in_cells" = some (.ref a_cells_in_cells)
  a_Flip__toggled : Addr
  fd_Flip__toggled : FuncData
  F_Flip__toggled : Fun K "toggled" "Flip.toggled" st_Flip__toggled a_Flip__toggled fd_Flip__toggled
  m_Flip__toggled : Meth K cl.Flip "toggled" a_Flip__toggled
  a_Flip__tested : Addr
  fd_Flip__tested : FuncData
  F_Flip__tested : Fun K "tested" "Flip.tested" st_Flip__tested a_Flip__tested fd_Flip__tested
  m_Flip__tested : Meth K cl.Flip "tested" a_Flip__tested
  a_Flip____repr__ : Addr
  fd_Flip____repr__ : FuncData
  F_Flip____repr__ : Fun K "__repr__" "Flip.__repr__" st_Flip____repr__ a_Flip____repr__ fd_Flip____repr__
  m_Flip____repr__ : Meth K cl.Flip "__repr__" a_Flip____repr__
  a_mask_text : Addr
  fd_mask_text : FuncData
  F_mask_text : Fun K "mask_text" "mask_text" st_mask_text a_mask_text fd_mask_text
  g_mask_text : mg "mask_text" = some (.ref a_mask_text)
  a_Flip____str__ : Addr
  fd_Flip____str__ : FuncData
  F_Flip____str__ : Fun K "__str__" "Flip.__str__" st_Flip____str__ a_Flip____str__ fd_Flip____str__
  m_Flip____str__ : Meth K cl.Flip "__str__" a_Flip____str__
  a__law_text_of : Addr
  fd__law_text_of : FuncData
  F__law_text_of : Fun K "_law_text_of" "_law_text_of" st__law_text_of a__law_text_of fd__law_text_of
  g__law_text_of : mg "_law_text_of" = some (.ref a__law_text_of)
  a__law_pair_text : Addr
  fd__law_pair_text : FuncData
  F__law_pair_text : Fun K "_law_pair_text" "_law_pair_text" st__law_pair_text a__law_pair_text fd__law_pair_text
  g__law_pair_text : mg "_law_pair_text" = some (.ref a__law_pair_text)
  a__law_written : Addr
  fd__law_written : FuncData
  F__law_written : Fun K "_law_written" "_law_written" st__law_written a__law_written fd__law_written
  g__law_written : mg "_law_written" = some (.ref a__law_written)
  a_mask_of_sequences : Addr
  fd_mask_of_sequences : FuncData
  F_mask_of_sequences : Fun K "mask_of" "mask_of" st_mask_of_sequences a_mask_of_sequences fd_mask_of_sequences
  g_mask_of_sequences : mg "mask_of_sequences" = some (.ref a_mask_of_sequences)
  a_cells_in_sequences : Addr
  fd_cells_in_sequences : FuncData
  F_cells_in_sequences : Fun K "cells_in" "cells_in" st_cells_in_sequences a_cells_in_sequences fd_cells_in_sequences
  g_cells_in_sequences : mg "cells_in_sequences" = some (.ref a_cells_in_sequences)
  a_is_odd_sequences : Addr
  fd_is_odd_sequences : FuncData
  F_is_odd_sequences : Fun K "is_odd" "is_odd" st_is_odd_sequences a_is_odd_sequences fd_is_odd_sequences
  g_is_odd_sequences : mg "is_odd_sequences" = some (.ref a_is_odd_sequences)
  a_mask_past : Addr
  fd_mask_past : FuncData
  F_mask_past : Fun K "mask_past" "mask_past" st_mask_past a_mask_past fd_mask_past
  g_mask_past : mg "mask_past" = some (.ref a_mask_past)
  a_moved_past : Addr
  fd_moved_past : FuncData
  F_moved_past : Fun K "moved_past" "moved_past" st_moved_past a_moved_past fd_moved_past
  g_moved_past : mg "moved_past" = some (.ref a_moved_past)
  a_Flip____eq__ : Addr
  fd_Flip____eq__ : FuncData
  F_Flip____eq__ : Fun K "__eq__" "Flip.__eq__" st_Flip____eq__ a_Flip____eq__ fd_Flip____eq__
  m_Flip____eq__ : Meth K cl.Flip "__eq__" a_Flip____eq__
  a_Flip__is_idle : Addr
  fd_Flip__is_idle : FuncData
  F_Flip__is_idle : Fun K "is_idle" "Flip.is_idle" st_Flip__is_idle a_Flip__is_idle fd_Flip__is_idle
  m_Flip__is_idle : Meth K cl.Flip "is_idle" a_Flip__is_idle
  a_Flip__width : Addr
  fd_Flip__width : FuncData
  F_Flip__width : Fun K "width" "Flip.width" st_Flip__width a_Flip__width fd_Flip__width
  m_Flip__width : Meth K cl.Flip "width" a_Flip__width
  a__law_is_pair : Addr
  fd__law_is_pair : FuncData
  F__law_is_pair : Fun K "_law_is_pair" "_law_is_pair" st__law_is_pair a__law_is_pair fd__law_is_pair
  g__law_is_pair : mg "_law_is_pair" = some (.ref a__law_is_pair)
  a__law_parity : Addr
  fd__law_parity : FuncData
  F__law_parity : Fun K "_law_parity" "_law_parity" st__law_parity a__law_parity fd__law_parity
  g__law_parity : mg "_law_parity" = some (.ref a__law_parity)
  a__law_after : Addr
  fd__law_after : FuncData
  F__law_after : Fun K "_law_after" "_law_after" st__law_after a__law_after fd__law_after
  g__law_after : mg "_law_after" = some (.ref a__law_after)
  a__law_after_all : Addr
  fd__law_after_all : FuncData
  F__law_after_all : Fun K "_law_after_all" "_law_after_all" st__law_after_all a__law_after_all fd__law_after_all
  g__law_after_all : mg "_law_after_all" = some (.ref a__law_after_all)
  a_Board__size : Addr
  fd_Board__size : FuncData
  F_Board__size : Fun K "size" "Board.size" st_Board__size a_Board__size fd_Board__size
  m_Board__size : Meth K cl.Board "size" a_Board__size
  a_require_cell : Addr
  fd_require_cell : FuncData
  F_require_cell : Fun K "require_cell" "require_cell" st_require_cell a_require_cell fd_require_cell
  g_require_cell : mg "require_cell" = some (.ref a_require_cell)
  a_Board__is_up : Addr
  fd_Board__is_up : FuncData
  F_Board__is_up : Fun K "is_up" "Board.is_up" st_Board__is_up a_Board__is_up fd_Board__is_up
  m_Board__is_up : Meth K cl.Board "is_up" a_Board__is_up
  a_Board__parity : Addr
  fd_Board__parity : FuncData
  F_Board__parity : Fun K "parity" "Board.parity" st_Board__parity a_Board__parity fd_Board__parity
  m_Board__parity : Meth K cl.Board "parity" a_Board__parity
  a_Board__up : Addr
  fd_Board__up : FuncData
  F_Board__up : Fun K "up" "Board.up" st_Board__up a_Board__up fd_Board__up
  m_Board__up : Meth K cl.Board "up" a_Board__up
  a__law_up : Addr
  fd__law_up : FuncData
  F__law_up : Fun K "_law_up" "_law_up" st__law_up a__law_up fd__law_up
  g__law_up : mg "_law_up" = some (.ref a__law_up)
  a__law_is_so : Addr
  fd__law_is_so : FuncData
  F__law_is_so : Fun K "_law_is_so" "_law_is_so" st__law_is_so a__law_is_so fd__law_is_so
  g__law_is_so : mg "_law_is_so" = some (.ref a__law_is_so)
  a_require_fit : Addr
  fd_require_fit : FuncData
  F_require_fit : Fun K "require_fit" "require_fit" st_require_fit a_require_fit fd_require_fit
  g_require_fit : mg "require_fit" = some (.ref a_require_fit)
  a_require_size : Addr
  fd_require_size : FuncData
  F_require_size : Fun K "require_size" "require_size" st_require_size a_require_size fd_require_size
  g_require_size : mg "require_size" = some (.ref a_require_size)
  a_Board____init__ : Addr
  fd_Board____init__ : FuncData
  F_Board____init__ : Fun K "__init__" "Board.__init__" st_Board____init__ a_Board____init__ fd_Board____init__
  mk_Board : Mk K cl.Board a_Board____init__
  D_Board____init__ : FunD K "__init__" "Board.__init__" (defArgs st_Board____init__) (defBody st_Board____init__) (defScope st_Board____init__) [] [("up", V.ref cl.d_Board____init___up)] a_Board____init__ fd_Board____init__
  dt_Board____init___up : SqT K (fun _ => none) cl.d_Board____init___up []
  a_board_of : Addr
  fd_board_of : FuncData
  F_board_of : Fun K "board_of" "board_of" st_board_of a_board_of fd_board_of
  g_board_of : mg "board_of" = some (.ref a_board_of)
  a_mask_after : Addr
  fd_mask_after : FuncData
  F_mask_after : Fun K "mask_after" "mask_after" st_mask_after a_mask_after fd_mask_after
  g_mask_after : mg "mask_after" = some (.ref a_mask_after)
  a_apply_flip : Addr
  fd_apply_flip : FuncData
  F_apply_flip : Fun K "apply_flip" "apply_flip" st_apply_flip a_apply_flip fd_apply_flip
  g_apply_flip : mg "apply_flip" = some (.ref a_apply_flip)
  a_apply_flips : Addr
  fd_apply_flips : FuncData
  F_apply_flips : Fun K "apply_flips" "apply_flips" st_apply_flips a_apply_flips fd_apply_flips
  g_apply_flips : mg "apply_flips" = some (.ref a_apply_flips)
  a__law_made : Addr
  fd__law_made : FuncData
  F__law_made : Fun K "_law_made" "_law_made" st__law_made a__law_made fd__law_made
  g__law_made : mg "_law_made" = some (.ref a__law_made)
  a__law_right : Addr
  fd__law_right : FuncData
  F__law_right : Fun K "_law_right" "_law_right" st__law_right a__law_right fd__law_right
  g__law_right : mg "_law_right" = some (.ref a__law_right)
  a_law : Addr
  fd_law : FuncData
  F_law : Fun K "law" "law" st_law a_law fd_law
  g_law : mg "law" = some (.ref a_law)
  g_CellError : mg "CellError" = some (.ref cl.CellError)
  q_CellError : ErrQ K cl.CellError
  g_LimitError : mg "LimitError" = some (.ref cl.LimitError)
  q_LimitError : ErrQ K cl.LimitError
  f_NoSize : Addr
  e_NoSize : ErrT K mg "NoSize" "CellError" "ValueError" "ValueError.__new__" "ValueError.__init__" [.type "ValueError", .type "Exception", .type "BaseException", .type "object"] "value" [] cl.NoSize cl.CellError f_NoSize st_NoSize
  q_NoSize : ErrQ K cl.NoSize
  f_NoCell : Addr
  e_NoCell : ErrT K mg "NoCell" "CellError" "ValueError" "ValueError.__new__" "ValueError.__init__" [.type "ValueError", .type "Exception", .type "BaseException", .type "object"] "cell" [] cl.NoCell cl.CellError f_NoCell st_NoCell
  q_NoCell : ErrQ K cl.NoCell
  f_NoCells : Addr
  e_NoCells : ErrT K mg "NoCells" "CellError" "ValueError" "ValueError.__new__" "ValueError.__init__" [.type "ValueError", .type "Exception", .type "BaseException", .type "object"] "cells" [] cl.NoCells cl.CellError f_NoCells st_NoCells
  q_NoCells : ErrQ K cl.NoCells
  f_NoFlip : Addr
  e_NoFlip : ErrT K mg "NoFlip" "CellError" "ValueError" "ValueError.__new__" "ValueError.__init__" [.type "ValueError", .type "Exception", .type "BaseException", .type "object"] "why" [] cl.NoFlip cl.CellError f_NoFlip st_NoFlip
  q_NoFlip : ErrQ K cl.NoFlip
  f_TooWide : Addr
  e_TooWide : ErrT K mg "TooWide" "LimitError" "ArithmeticError" "ArithmeticError.__new__" "ArithmeticError.__init__" [.type "ArithmeticError", .type "Exception", .type "BaseException", .type "object"] "needed" [] cl.TooWide cl.LimitError f_TooWide st_TooWide
  q_TooWide : ErrQ K cl.TooWide
  cq : ClsQ K
  gc_Board : mg "Board" = some (.ref cl.Board)
  cls_Board : Cls K cl.Board
  ty_Board : InstT K cl.Board
  no_Board_own_size : NoAttr K cl.Board "own_size"
  no_Board_up_mask : NoAttr K cl.Board "up_mask"
  gc_Flip : mg "Flip" = some (.ref cl.Flip)
  cls_Flip : Cls K cl.Flip
  ty_Flip : InstT K cl.Flip
  no_Flip_test_mask : NoAttr K cl.Flip "test_mask"
  no_Flip_toggle_mask : NoAttr K cl.Flip "toggle_mask"
  eq_Flip : EqT K cl.Flip a_Flip____eq__
  z_abs : mg "abs" = none
  z_all : mg "all" = none
  z_bool : mg "bool" = none
  z_divmod : mg "divmod" = none
  z_enumerate : mg "enumerate" = none
  z_int : mg "int" = none
  z_isinstance : mg "isinstance" = none
  z_len : mg "len" = none
  z_list : mg "list" = none
  z_max : mg "max" = none
  z_min : mg "min" = none
  z_range : mg "range" = none
  z_repr : mg "repr" = none
  z_sorted : mg "sorted" = none
  z_str : mg "str" = none
  z_sum : mg "sum" = none
  z_tuple : mg "tuple" = none
  z_zip : mg "zip" = none
  t_MOST_CELLS : Tok
  c_MOST_CELLS : mg "MOST_CELLS" = some (.int 40 t_MOST_CELLS)
section
variable {P : Program} {w : World} {K : PySem.W.Frag} {mg : Str → Option Value} {base : Heap} {cl : Cl}
theorem b__law_pot (T : Tx K mg cl) : Binds K T.fd__law_pot ["_law_script", "_law_k"] [] := T.F__law_pot.binds fun _ _ _ _ _ _ us hl => match us, hl with | [_, _], _ => rfl
theorem b__law_draw (T : Tx K mg cl) : Binds K T.fd__law_draw ["_law_pot_here", "_law_many"] [] := T.F__law_draw.binds fun _ _ _ _ _ _ us hl => match us, hl with | [_, _], _ => rfl
theorem b__law_width (T : Tx K mg cl) : Binds K T.fd__law_width ["_law_pot_here", "_law_most"] [] := T.F__law_width.binds fun _ _ _ _ _ _ us hl => match us, hl with | [_, _], _ => rfl
theorem b__law_all_bits (T : Tx K mg cl) : Binds K T.fd__law_all_bits ["_law_width_here"] [] := T.F__law_all_bits.binds fun _ _ _ _ _ _ us hl => match us, hl with | [_], _ => rfl
theorem b__law_bits (T : Tx K mg cl) : Binds K T.fd__law_bits ["_law_pot_here", "_law_width_here"] [] := T.F__law_bits.binds fun _ _ _ _ _ _ us hl => match us, hl with | [_, _], _ => rfl
theorem b__law_spots (T : Tx K mg cl) : Binds K T.fd__law_spots ["_law_pot_here", "_law_least", "_law_width_here"] [] := T.F__law_spots.binds fun _ _ _ _ _ _ us hl => match us, hl with | [_, _, _], _ => rfl
theorem b__law_pair (T : Tx K mg cl) : Binds K T.fd__law_pair ["_law_pot_here", "_law_width_here"] [] := T.F__law_pair.binds fun _ _ _ _ _ _ us hl => match us, hl with | [_, _], _ => rfl
theorem b_mask_of_cells (T : Tx K mg cl) : Binds K T.fd_mask_of_cells ["cells"] [] := T.F_mask_of_cells.binds fun _ _ _ _ _ _ us hl => match us, hl with | [_], _ => rfl
theorem b_is_integer_in (T : Tx K mg cl) : Binds K T.fd_is_integer_in ["thing", "low", "high"] [] := T.F_is_integer_in.binds fun _ _ _ _ _ _ us hl => match us, hl with | [_, _, _], _ => rfl
theorem b_cell_mask (T : Tx K mg cl) : Binds K T.fd_cell_mask ["things", "size"] [] := T.F_cell_mask.binds fun _ _ _ _ _ _ us hl => match us, hl with | [_, _], _ => rfl
theorem b_is_odd_cells (T : Tx K mg cl) : Binds K T.fd_is_odd_cells ["mask"] [] := T.F_is_odd_cells.binds fun _ _ _ _ _ _ us hl => match us, hl with | [_], _ => rfl
theorem b_Flip____init__ (T : Tx K mg cl) : Binds K T.fd_Flip____init__ ["self", "tested", "toggled"] [] := T.F_Flip____init__.binds fun _ _ _ _ _ _ us hl => match us, hl with | [_, _, _], _ => rfl
theorem b__law_flip_of (T : Tx K mg cl) : Binds K T.fd__law_flip_of ["_law_pair_here"] [] := T.F__law_flip_of.binds fun _ _ _ _ _ _ us hl => match us, hl with | [_], _ => rfl
theorem b__law_added (T : Tx K mg cl) : Binds K T.fd__law_added ["_law_some", "_law_more"] [] := T.F__law_added.binds fun _ _ _ _ _ _ us hl => match us, hl with | [_, _], _ => rfl
theorem b__law_past (T : Tx K mg cl) : Binds K T.fd__law_past ["_law_spots_here", "_law_pair_here"] [] := T.F__law_past.binds fun _ _ _ _ _ _ us hl => match us, hl with | [_, _], _ => rfl
theorem b__law_pair_past (T : Tx K mg cl) : Binds K T.fd__law_pair_past ["_law_pair_here", "_law_after_here"] [] := T.F__law_pair_past.binds fun _ _ _ _ _ _ us hl => match us, hl with | [_, _], _ => rfl
theorem b_cells_in_cells (T : Tx K mg cl) : Binds K T.fd_cells_in_cells ["mask"] [] := T.F_cells_in_cells.binds fun _ _ _ _ _ _ us hl => match us, hl with | [_], _ => rfl
theorem b_Flip__toggled (T : Tx K mg cl) : Binds K T.fd_Flip__toggled ["self"] [] := T.F_Flip__toggled.binds fun _ _ _ _ _ _ us hl => match us, hl with | [_], _ => rfl
theorem b_Flip__tested (T : Tx K mg cl) : Binds K T.fd_Flip__tested ["self"] [] := T.F_Flip__tested.binds fun _ _ _ _ _ _ us hl => match us, hl with | [_], _ => rfl
theorem b_Flip____repr__ (T : Tx K mg cl) : Binds K T.fd_Flip____repr__ ["self"] [] := T.F_Flip____repr__.binds fun _ _ _ _ _ _ us hl => match us, hl with | [_], _ => rfl
theorem b_mask_text (T : Tx K mg cl) : Binds K T.fd_mask_text ["mask"] [] := T.F_mask_text.binds fun _ _ _ _ _ _ us hl => match us, hl with | [_], _ => rfl
theorem b_Flip____str__ (T : Tx K mg cl) : Binds K T.fd_Flip____str__ ["self"] [] := T.F_Flip____str__.binds fun _ _ _ _ _ _ us hl => match us, hl with | [_], _ => rfl
theorem b__law_text_of (T : Tx K mg cl) : Binds K T.fd__law_text_of ["_law_spots_here"] [] := T.F__law_text_of.binds fun _ _ _ _ _ _ us hl => match us, hl with | [_], _ => rfl
theorem b__law_pair_text (T : Tx K mg cl) : Binds K T.fd__law_pair_text ["_law_pair_here"] [] := T.F__law_pair_text.binds fun _ _ _ _ _ _ us hl => match us, hl with | [_], _ => rfl
theorem b__law_written (T : Tx K mg cl) : Binds K T.fd__law_written ["_law_pair_here"] [] := T.F__law_written.binds fun _ _ _ _ _ _ us hl => match us, hl with | [_], _ => rfl
theorem b_mask_of_sequences (T : Tx K mg cl) : Binds K T.fd_mask_of_sequences ["spots"] [] := T.F_mask_of_sequences.binds fun _ _ _ _ _ _ us hl => match us, hl with | [_], _ => rfl
theorem b_cells_in_sequences (T : Tx K mg cl) : Binds K T.fd_cells_in_sequences ["mask"] [] := T.F_cells_in_sequences.binds fun _ _ _ _ _ _ us hl => match us, hl with | [_], _ => rfl
theorem b_is_odd_sequences (T : Tx K mg cl) : Binds K T.fd_is_odd_sequences ["mask"] [] := T.F_is_odd_sequences.binds fun _ _ _ _ _ _ us hl => match us, hl with | [_], _ => rfl
theorem b_mask_past (T : Tx K mg cl) : Binds K T.fd_mask_past ["mask", "later"] [] := T.F_mask_past.binds fun _ _ _ _ _ _ us hl => match us, hl with | [_, _], _ => rfl
theorem b_moved_past (T : Tx K mg cl) : Binds K T.fd_moved_past ["flip", "later"] [] := T.F_moved_past.binds fun _ _ _ _ _ _ us hl => match us, hl with | [_, _], _ => rfl
theorem b_Flip____eq__ (T : Tx K mg cl) : Binds K T.fd_Flip____eq__ ["self", "other"] [] := T.F_Flip____eq__.binds fun _ _ _ _ _ _ us hl => match us, hl with | [_, _], _ => rfl
theorem b_Flip__is_idle (T : Tx K mg cl) : Binds K T.fd_Flip__is_idle ["self"] [] := T.F_Flip__is_idle.binds fun _ _ _ _ _ _ us hl => match us, hl with | [_], _ => rfl
theorem b_Flip__width (T : Tx K mg cl) : Binds K T.fd_Flip__width ["self"] [] := T.F_Flip__width.binds fun _ _ _ _ _ _ us hl => match us, hl with | [_], _ => rfl
theorem b__law_is_pair (T : Tx K mg cl) : Binds K T.fd__law_is_pair ["_law_found", "_law_pair_here"] [] := T.F__law_is_pair.binds fun _ _ _ _ _ _ us hl => match us, hl with | [_, _], _ => rfl
theorem b__law_parity (T : Tx K mg cl) : Binds K T.fd__law_parity ["_law_bits_here", "_law_spots_here"] [] := T.F__law_parity.binds fun _ _ _ _ _ _ us hl => match us, hl with | [_, _], _ => rfl
theorem b__law_after (T : Tx K mg cl) : Binds K T.fd__law_after ["_law_bits_here", "_law_pair_here"] [] := T.F__law_after.binds fun _ _ _ _ _ _ us hl => match us, hl with | [_, _], _ => rfl
theorem b__law_after_all (T : Tx K mg cl) : Binds K T.fd__law_after_all ["_law_bits_here", "_law_pairs"] [] := T.F__law_after_all.binds fun _ _ _ _ _ _ us hl => match us, hl with | [_, _], _ => rfl
theorem b_Board__size (T : Tx K mg cl) : Binds K T.fd_Board__size ["self"] [] := T.F_Board__size.binds fun _ _ _ _ _ _ us hl => match us, hl with | [_], _ => rfl
theorem b_require_cell (T : Tx K mg cl) : Binds K T.fd_require_cell ["cell", "low", "size"] [] := T.F_require_cell.binds fun _ _ _ _ _ _ us hl => match us, hl with | [_, _, _], _ => rfl
theorem b_Board__is_up (T : Tx K mg cl) : Binds K T.fd_Board__is_up ["self", "cell"] [] := T.F_Board__is_up.binds fun _ _ _ _ _ _ us hl => match us, hl with | [_, _], _ => rfl
theorem b_Board__parity (T : Tx K mg cl) : Binds K T.fd_Board__parity ["self", "cells"] [] := T.F_Board__parity.binds fun _ _ _ _ _ _ us hl => match us, hl with | [_, _], _ => rfl
theorem b_Board__up (T : Tx K mg cl) : Binds K T.fd_Board__up ["self"] [] := T.F_Board__up.binds fun _ _ _ _ _ _ us hl => match us, hl with | [_], _ => rfl
theorem b__law_up (T : Tx K mg cl) : Binds K T.fd__law_up ["_law_bits_here"] [] := T.F__law_up.binds fun _ _ _ _ _ _ us hl => match us, hl with | [_], _ => rfl
theorem b__law_is_so (T : Tx K mg cl) : Binds K T.fd__law_is_so ["_law_found", "_law_bits_here"] [] := T.F__law_is_so.binds fun _ _ _ _ _ _ us hl => match us, hl with | [_, _], _ => rfl
theorem b_require_fit (T : Tx K mg cl) : Binds K T.fd_require_fit ["flip", "size"] [] := T.F_require_fit.binds fun _ _ _ _ _ _ us hl => match us, hl with | [_, _], _ => rfl
theorem b_require_size (T : Tx K mg cl) : Binds K T.fd_require_size ["size"] [] := T.F_require_size.binds fun _ _ _ _ _ _ us hl => match us, hl with | [_], _ => rfl
theorem b_board_of (T : Tx K mg cl) : Binds K T.fd_board_of ["size", "mask"] [] := T.F_board_of.binds fun _ _ _ _ _ _ us hl => match us, hl with | [_, _], _ => rfl
theorem b_mask_after (T : Tx K mg cl) : Binds K T.fd_mask_after ["up_mask", "flip"] [] := T.F_mask_after.binds fun _ _ _ _ _ _ us hl => match us, hl with | [_, _], _ => rfl
theorem b_apply_flip (T : Tx K mg cl) : Binds K T.fd_apply_flip ["board", "flip"] [] := T.F_apply_flip.binds fun _ _ _ _ _ _ us hl => match us, hl with | [_, _], _ => rfl
theorem b_apply_flips (T : Tx K mg cl) : Binds K T.fd_apply_flips ["board", "flips"] [] := T.F_apply_flips.binds fun _ _ _ _ _ _ us hl => match us, hl with | [_, _], _ => rfl
theorem b__law_made (T : Tx K mg cl) : Binds K T.fd__law_made ["_law_bits_here"] [] := T.F__law_made.binds fun _ _ _ _ _ _ us hl => match us, hl with | [_], _ => rfl
theorem b__law_right (T : Tx K mg cl) : Binds K T.fd__law_right ["_law_pair_here", "_law_after_here", "_law_some"] [] := T.F__law_right.binds fun _ _ _ _ _ _ us hl => match us, hl with | [_, _, _], _ => rfl
theorem b_law (T : Tx K mg cl) : Binds K T.fd_law ["_law_script"] [] := T.F_law.binds fun _ _ _ _ _ _ us hl => match us, hl with | [_], _ => rfl
theorem kb_Board____init____2_up (T : Tx K mg cl) : KBinds K T.fd_Board____init__ ["self", "size", "up"] ["up"] (kwg 2 1 [0, 1, 2]) (kwg 2 1 [0, 1, 2]) :=
  kb_of T.F_Board____init__ (by decide) fun _ _ _ _ _ _ us ws h1 h2 => match us, ws, h1, h2 with | [_, _], [_], _, _ => rfl
theorem kb_cell_tuple__1_size (T : Tx K mg cl) : KBinds K T.fd_cell_tuple ["things", "size"] ["size"] (kwg 1 1 [0, 1]) (kwg 1 1 [0, 1]) :=
  kb_of T.F_cell_tuple (by decide) fun _ _ _ _ _ _ us ws h1 h2 => match us, ws, h1, h2 with | [_], [_], _, _ => rfl
theorem kb_is_cell__1_size (T : Tx K mg cl) : KBinds K T.fd_is_cell ["thing", "size"] ["size"] (kwg 1 1 [0, 1]) (kwg 1 1 [0, 1]) :=
  kb_of T.F_is_cell (by decide) fun _ _ _ _ _ _ us ws h1 h2 => match us, ws, h1, h2 with | [_], [_], _, _ => rfl
theorem kb_moved_past__0_later_flip (T : Tx K mg cl) : KBinds K T.fd_moved_past ["flip", "later"] ["later", "flip"] (kwg 0 2 [1, 0]) (kwg 0 2 [1, 0]) :=
  kb_of T.F_moved_past (by decide) fun _ _ _ _ _ _ us ws h1 h2 => match us, ws, h1, h2 with | [], [_, _], _, _ => rfl
local macro_rules | `(tactic| wtm_at "cls") => `(tactic| first | exact Tx.cls_Board (by assumption) | exact Tx.cls_Flip (by assumption))
local macro_rules | `(tactic| wtm_at "noat") => `(tactic| first | exact Tx.no_Board_own_size (by assumption) | exact Tx.no_Board_up_mask (by assumption) | exact Tx.no_Flip_test_mask (by assumption) | exact Tx.no_Flip_toggle_mask (by assumption))
local macro_rules | `(tactic| wtm_at "isc") => `(tactic| first | exact Tx.ty_Board (by assumption) | exact Tx.ty_Flip (by assumption))
theorem ins_up {p : Addr} {H H' : Hp} {a C dx : Addr} {fs : List (Str × V)} (r : R p H H') (e : H a = some (.ins C dx fs)) : H' a = some (.ins C dx fs) := by
  refine r.stay a _ ?_ e
  intro _ z
  cases z
/-- the board of n cells with the mask m -/
structure BoardAt (cl : Cl) (H : Hp) (v : V) (n m : Nat) : Prop where
  ex : ∃ a dx, v = .ref a ∧ H a = some (.ins cl.Board dx [("own_size", .int n), ("up_mask", .int m)])
  n1 : 1 ≤ n
  n40 : n ≤ 40
  lt : m < 2 ^ n
  odd : m.testBit 0 = true
theorem BoardAt.up {cl : Cl} {H H' : Hp} {p : Addr} {v : V} {n m : Nat} (h : BoardAt cl H v n m) (r : R p H H') : BoardAt cl H' v n m := by
  obtain ⟨⟨a, dx, e, k⟩, h1, h2, h3, h4⟩ := h
  exact ⟨⟨a, dx, e, r.stay a _ (fun _ z => nomatch z) k⟩, h1, h2, h3, h4⟩
theorem BoardAt.put {cl : Cl} {H : Hp} {a : Addr} {xs : List V} {v : V} {n m : Nat} (h : BoardAt cl H v n m) (e : H a = some (.lst xs)) {o : HO} : BoardAt cl (upd H a o) v n m := by
  obtain ⟨⟨b, dx, ev, k⟩, h1, h2, h3, h4⟩ := h
  exact ⟨⟨b, dx, ev, ins_put e k⟩, h1, h2, h3, h4⟩
theorem BoardAt.lt64 {cl : Cl} {H : Hp} {v : V} {n m : Nat} (h : BoardAt cl H v n m) : m < 2 ^ 64 :=
  Nat.lt_of_lt_of_le h.lt (Nat.pow_le_pow_right (by decide) (by have := h.n40; omega))
/-! found in the context: the world, the pot, data, boards, of an elder heap -/
local macro_rules | `(tactic| wtm_at "w") => `(tactic| first | assumption | exact Wd.up (by assumption) (by wtm_at "r"))
local macro_rules | `(tactic| wtm_at "p") => `(tactic| first | assumption | exact R.potW (by assumption) (by wtm_at "r"))
local macro_rules | `(tactic| wtm_at "d") => `(tactic| first
  | assumption | exact dat_int | exact dat_bl | exact dat_str | exact dat_non
  | exact Dat.liftW (by assumption) (by assumption) (by wtm_at "r")
  | exact Dat.liftMW (by assumption) (by assumption) (by assumption) (by wtm_at "r") (by wtm_at "r"))
local macro_rules | `(tactic| wtm_at "i") => `(tactic| first | assumption | exact R.insW (by assumption) (by wtm_at "r"))
local macro_rules | `(tactic| wtm_at "me") => `(tactic| refine ⟨_, _, _, rfl, by wtm_at "i", by rfl, ?_⟩)
local macro_rules | `(tactic| wtm_at "fl") => `(tactic| refine ⟨_, _, _, _, _, rfl, by wtm_at "i", by wtm_at "cls", by wtm_at "noat", by rfl, ?_⟩)
local macro_rules | `(tactic| wtm_at "dr") => `(tactic| refine ⟨_, _, rfl, by wtm_at "p", by first | decide | omega, by first | decide | omega, ?_⟩)
local macro_rules | `(tactic| wtm_at "b") => `(tactic| first | assumption | exact BoardAt.up (by assumption) (by wtm_at "r"))
structure FlipAt (cl : Cl) (H : Hp) (v : V) (t g : Nat) : Prop where
  ex : ∃ a dx, v = .ref a ∧ H a = some (.ins cl.Flip dx [("test_mask", .int t), ("toggle_mask", .int g)])
  ok : FlipOk t g
theorem FlipAt.up {cl : Cl} {H H' : Hp} {p : Addr} {v : V} {t g : Nat} (h : FlipAt cl H v t g) (r : R p H H') : FlipAt cl H' v t g := by
  obtain ⟨⟨a, dx, e, k⟩, h1⟩ := h
  exact ⟨⟨a, dx, e, r.stay a _ (fun _ z => nomatch z) k⟩, h1⟩
theorem FlipAt.put {cl : Cl} {H : Hp} {a : Addr} {xs : List V} {v : V} {t g : Nat} (h : FlipAt cl H v t g) (e : H a = some (.lst xs)) {o : HO} : FlipAt cl (upd H a o) v t g := by
  obtain ⟨⟨b, dx, ev, k⟩, h1⟩ := h
  exact ⟨⟨b, dx, ev, ins_put e k⟩, h1⟩
local macro_rules | `(tactic| wtm_at "f") => `(tactic| first | assumption | exact FlipAt.up (by assumption) (by wtm_at "r"))
def FlipsAt (cl : Cl) (H : Hp) (xs : List V) (fl : List (Nat × Nat)) : Prop := xs.length = fl.length ∧ ∀ (i : Nat) x f, xs[i]? = some x → fl[i]? = some f → FlipAt cl H x f.1 f.2
theorem FlipsAt.up {cl : Cl} {H H' : Hp} {p : Addr} {xs : List V} {fl : List (Nat × Nat)} (h : FlipsAt cl H xs fl) (r : R p H H') : FlipsAt cl H' xs fl := ⟨h.1, fun i x f a b => (h.2 i x f a b).up r⟩
theorem FlipsAt.nil {cl : Cl} {H : Hp} : FlipsAt cl H [] [] := ⟨rfl, fun i x f a b => by simp at a⟩
theorem FlipsAt.cons {cl : Cl} {H : Hp} {x : V} {xs : List V} {f : Nat × Nat} {fl : List (Nat × Nat)} (h : FlipAt cl H x f.1 f.2) (t : FlipsAt cl H xs fl) : FlipsAt cl H (x :: xs) (f :: fl) := by
  refine ⟨by simp [t.1], fun i y g a b => ?_⟩
  cases i with
  | zero =>
    simp at a b
    subst a b
    exact h
  | succ i => exact t.2 i y g (by simpa using a) (by simpa using b)
local macro_rules | `(tactic| wtm_at "fs") => `(tactic| first | assumption | exact FlipsAt.up (by assumption) (by wtm_at "r"))
def sp__law_pot (K : PySem.W.Frag) (cl : Cl) : Sp := fun vs H Q _ => ∃ (a : Addr) (ns : List Int) (k : Nat), vs = [.ref a, .int k] ∧ SqL K H a (ns.map V.int) ∧ k < 100 ∧ ∀ H' p, Same H H' → H p = none → Pot p H' → Q (.ref p) H'
theorem ok__law_pot (T : Tx K mg cl) : FnG P w K mg base 1 T.a__law_pot T.fd__law_pot ["_law_script", "_law_k"] (sp__law_pot K cl) := by
  refine FnG.ok T.F__law_pot sc__law_pot (fun vs H Q E h => ?_) (fun cdv A outer s H vs Q E hg hr h => ?_)
  · obtain ⟨_, _, _, rfl, _, _, _⟩ := h
    rfl
  · obtain ⟨a, ns, k, rfl, hS, hk, q⟩ := h
    refine ⟨_, pss_cons (ps_set (i := 2) sc__law_pot.nd rfl (by first | exact Or.inl rfl | exact Or.inr rfl) (pe_ifExp (pt_cmpR op_lt (pv 1) (pe_callB (kx_len (K := K) rfl) (by rfl) T.z_len bt_len (pa_cons (pv 0) pa_nil)) (nomark _)) (pe_ix (kx_ix (K := K) rfl) (pv 0) (pv 1) (fun _ _ => rfl)) (pe_int)))
    (pss_one (ps_ret (pe_lst (pa_cons (pe_callB (call_max2 rfl) (by rfl) T.z_max bt_max (pa_cons (pe_int) (pa_cons (pe_op op_sub (pe_callB call_abs (by rfl) T.z_abs bt_abs (pa_cons (pv 2) pa_nil)) (pe_op op_pow (pe_int) (pe_int))) pa_nil))) (pa_cons (pe_op op_modA (pe_op (kx_add (K := K) rfl) (pe_op (kx_add (K := K) rfl) (pe_op op_mul (pe_op op_modA (pe_callB call_abs (by rfl) T.z_abs bt_abs (pa_cons (pv 2) pa_nil)) (pe_int)) (pe_int)) (pe_op op_mul (pe_int) (pv 1))) (pe_int)) (pe_int)) pa_nil))))), ?_⟩
    try dsimp only [cxg, cxOf, Cx.nox, Cx.wish]
    wtm_at "v"
    refine .inl ⟨a, _, rfl, .inl hS, ?_⟩
    wtm_at "v"
    refine ite_d (fun h0 => ?_) (fun h0 => ?_)
    · rw [List.length_map] at h0
      wtm_at "v"
      refine s_script hS (by omega) (fun z hz => ?_)
      wtm_at "v"
      refine ⟨by simp; decide, fun p hp => q _ _ (same_new hp) hp ⟨_, _, upd_same, by split <;> omega, Int.emod_nonneg _ (by decide), Int.emod_lt_of_pos _ (by decide)⟩⟩
    · wtm_at "v"
      refine ⟨by simp; decide, fun p hp => q _ _ (same_new hp) hp ⟨_, _, upd_same, by split <;> omega, Int.emod_nonneg _ (by decide), Int.emod_lt_of_pos _ (by decide)⟩⟩
def sp__law_draw (K : PySem.W.Frag) (cl : Cl) : Sp := fun vs H Q _ => ∃ p n, vs = [.ref p, .int n] ∧ Pot p H ∧ 0 < n ∧ n.natAbs < 2 ^ 200 ∧ ∀ H' d, R p H H' → 0 ≤ d → d < n → Q (.int d) H'
theorem ok__law_draw (T : Tx K mg cl) : FnG P w K mg base 1 T.a__law_draw T.fd__law_draw ["_law_pot_here", "_law_many"] (sp__law_draw K cl) := by
  refine FnG.ok T.F__law_draw sc__law_draw (fun vs H Q E h => ?_) (fun cdv A outer s H vs Q E hg hr h => ?_)
  · obtain ⟨_, _, rfl, ⟨_, _, _, _, _, _⟩, _, _, _⟩ := h
    rfl
  · obtain ⟨p, n, rfl, ⟨a, b, e, ha, hb, hb2⟩, hn, hn2, q⟩ := h
    refine ⟨_, pss_cons (ps_if (pt_cmpR op_gt (pe_ix (kx_ix (K := K) rfl) (pv 0) (pe_int) (fun _ _ => rfl)) (pe_int) (nomark _)) (pss_cons (ps_asg (pe_callB PC.call_divmodW (by rfl) T.z_divmod bt_divmod (pa_cons (pe_ix (kx_ix (K := K) rfl) (pv 0) (pe_int) (fun _ _ => rfl)) (pa_cons (pv 1) pa_nil))) (pg_tupK (K := K) rfl rfl (pgs_cons (pg_sub (pv 0) (pe_int) set_list) (pgs_cons (pg_name (i := 2) sc__law_draw.nd rfl (by first | exact Or.inl rfl | exact Or.inr rfl)) pgs_nil))))
    (pss_one (ps_ret (pv 2)))) pss_nil)
    (pss_cons (ps_asg (pe_op op_modA (pe_op (kx_add (K := K) rfl) (pe_op op_mul (pe_ix (kx_ix (K := K) rfl) (pv 0) (pe_int) (fun _ _ => rfl)) (pe_int)) (pe_int)) (pe_int)) (pg_sub (pv 0) (pe_int) set_list))
    (pss_one (ps_ret (pe_op op_modA (pe_op op_fdivA (pe_op op_modA (pe_op op_mul (pe_ix (kx_ix (K := K) rfl) (pv 0) (pe_int) (fun _ _ => rfl)) (pe_ix (kx_ix (K := K) rfl) (pv 0) (pe_int) (fun _ _ => rfl))) (pe_int)) (pe_int)) (pv 1))))), ?_⟩
    try dsimp only [cxg, cxOf, Cx.nox, Cx.wish]
    have nf : ∀ x u, HO.lst [.int a, .int b] ≠ .frz x u := fun x u z => by cases z
    wtm_at "v"
    refine s_pot0 e ?_
    wtm_at "v"
    refine ite_d (fun h0 => ?_) (fun h0 => ?_)
    · wtm_at "v"
      refine s_pot0 e ?_
      wtm_at "v"
      refine ⟨wide_div hn hn2 (by decide) (by decide), fun t ht => ?_⟩
      have e' : (upd H t (.tup [.int (a / n), .int (a % n)])) p = some (.lst [.int a, .int b]) := by
        rw [upd_ne (ne_of_none e ht)]; exact e
      refine s_gtup (SqT.of upd_same) rfl ?_
      wtm_at "v"
      refine s_pset0 e' ?_
      wtm_at "v"
      refine q _ _ ((R.new ht).trans (R.draw e' nf (Int.ediv_nonneg ha (by omega)) hb hb2)) (Int.emod_nonneg _ (by omega)) (Int.emod_lt_of_pos _ hn)
    · wtm_at "v"
      refine s_pot1 e ?_
      wtm_at "v"
      refine s_pset1 e ?_
      have hb' := Int.emod_nonneg (b * 39373 + 12227) (show (2147483629 : Int) ≠ 0 by decide)
      have hb3 := Int.emod_lt_of_pos (b * 39373 + 12227) (show (0 : Int) < 2147483629 by decide)
      generalize (b * 39373 + 12227) % 2147483629 = c at hb' hb3
      have e2 : (upd H p (.lst [.int a, .int c])) p = some (.lst [.int a, .int c]) := upd_same
      wtm_at "v"
      refine s_pot1 e2 ?_
      wtm_at "v"
      refine s_pot1 e2 ?_
      wtm_at "v"
      wtm_at "v"
      exact q _ _ (R.draw e nf ha hb' (by omega)) (Int.emod_nonneg _ (by omega)) (Int.emod_lt_of_pos _ hn)
def sp__law_width (K : PySem.W.Frag) (cl : Cl) : Sp := fun vs H Q _ => ∃ p Z k, vs = [.ref p, .int k] ∧ Wd p Z H ∧ Pot p H ∧ 1 ≤ k ∧ k ≤ 100 ∧ ∀ H' (n : Nat), R p H H' → 1 ≤ n → (n : Int) ≤ k → Q (.int n) H'
theorem ok__law_width (T : Tx K mg cl) : FnG P w K mg base 2 T.a__law_width T.fd__law_width ["_law_pot_here", "_law_most"] (sp__law_width K cl) := by
  refine FnG.ok T.F__law_width sc__law_width (fun vs H Q E h => ?_) (fun cdv A outer s H vs Q E hg hr h => ?_)
  · obtain ⟨_, _, _, rfl, _, _, _, _, _⟩ := h
    rfl
  · obtain ⟨p, Z, k, rfl, w, hp, k0, k1, q⟩ := h
    refine ⟨_, pss_one (ps_ret (pe_ix (kx_ix (K := K) rfl) (pe_lst (pa_cons (pe_callB (call_min2 rfl) (by rfl) T.z_min bt_min (pa_cons (pe_int) (pa_cons (pv 1) pa_nil))) (pa_cons (pe_callB (call_min2 rfl) (by rfl) T.z_min bt_min (pa_cons (pe_int) (pa_cons (pv 1) pa_nil))) (pa_cons (pe_op (kx_add (K := K) rfl) (pe_int) (pe_fn ((ok__law_draw T).at hg (hr.mono (by decide)) (b__law_draw T) .nil passN) rfl T.g__law_draw T.F__law_draw.kp (pa_cons (pv 0) (pa_cons (pv 1) pa_nil)))) pa_nil)))) (pe_fn ((ok__law_draw T).at hg (hr.mono (by decide)) (b__law_draw T) .nil passN) rfl T.g__law_draw T.F__law_draw.kp (pa_cons (pv 0) (pa_cons (pe_int) pa_nil))) (fun _ _ => rfl))), ?_⟩
    try dsimp only [cxg, cxOf, Cx.nox, Cx.wish]
    wtm_at "v"
    wtm_at "dr"
    intro H1 d1 r1 a1 b1
    have w1 := w.up r1
    wtm_at "v"
    refine s_newl K w1 (datL_cons dat_int (datL_cons dat_int (datL_cons dat_int datL_nil))) (by simp) (fun H2 v2 r2 h2 => ?_)
    wtm_at "v"
    wtm_at "dr"
    intro H3 d3 r3 a3 b3
    refine s_pick (by wtm_at "d") a3 (by simpa using b3) (fun v d hm hd => ?_)
    have hd' : ∃ n : Nat, d = .int n ∧ 1 ≤ n ∧ (n : Int) ≤ k := by
      simp only [List.mem_cons, List.not_mem_nil, or_false] at hm
      rcases hm with rfl | rfl | rfl
      · exact nat_of (by split <;> omega) (by split <;> omega)
      · exact nat_of (by split <;> omega) (by split <;> omega)
      · exact nat_of (by omega) (by omega)
    obtain ⟨n, rfl, n1, n2⟩ := hd'
    have e := hd.int
    subst e
    exact q _ n (r1.trans (r2.trans r3)) n1 n2
def sp__law_all_bits (K : PySem.W.Frag) (cl : Cl) : Sp := fun vs H Q _ => ∃ p Z, ∃ n : Nat, vs = [.int n] ∧ Wd p Z H ∧ 1 ≤ n ∧ n ≤ 12 ∧ ∀ H' v, R p H H' → Dat K Z H' (allBitsD n) v → Q v H'
theorem ok__law_all_bits (T : Tx K mg cl) : FnG P w K mg base 1 T.a__law_all_bits T.fd__law_all_bits ["_law_width_here"] (sp__law_all_bits K cl) := by
  refine FnG.ok T.F__law_all_bits sc__law_all_bits (fun vs H Q E h => ?_) (fun cdv A outer s H vs Q E hg hr h => ?_)
  · obtain ⟨_, _, _, rfl, _, _, _, _⟩ := h
    rfl
  · obtain ⟨p, Z, n, rfl, w, n0, n1, q⟩ := h
    refine ⟨_, pss_one (ps_ret (pe_lc (own := [("_law_number", 1)]) (g := gName 1) (tt := tYes)  rfl sc__law_all_bits.nd (pi_range1 rfl T.z_range (pa_cons (pe_op op_shl (pe_int) (pe_op op_sub (pv 0) (pe_int))) pa_nil)) (blkOk_by (own := [("_law_number", 1)]) (N := N__law_all_bits) (sc := defScope st__law_all_bits) (by decide +kernel)) (fun _ _ _ _ _ => pg_name (i := 1) sc__law_all_bits.nd rfl (by first | exact Or.inl rfl | exact Or.inr rfl)) (fun _ _ _ _ _ => pts_nil) (fun _ _ _ _ _ => pe_op (kx_add (K := K) rfl) (pe_lst (pa_cons (pe_int) pa_nil)) (pe_lc (own := [("_law_spot", 2)]) (g := gName 2) (tt := tYes)  rfl sc__law_all_bits.nd (pi_range1 rfl T.z_range (pa_cons (pe_op op_sub (pv 0) (pe_int)) pa_nil)) (blkOk_by (own := [("_law_spot", 2)]) (N := N__law_all_bits) (sc := relS _ (defScope st__law_all_bits)) (by decide +kernel)) (fun _ _ _ _ _ => pg_name (i := 2) sc__law_all_bits.nd rfl (by first | exact Or.inl rfl | exact Or.inr rfl)) (fun _ _ _ _ _ => pts_nil) (fun _ _ _ _ _ => pe_op op_and (pe_op op_shr (pv 1) (pv 2)) (pe_int)))))), ?_⟩
    try dsimp only [cxg, cxOf, Cx.nox, Cx.wish]
    have e0 : (1 : Int) * 2 ^ ((n : Int) - 1).toNat = ((2 ^ (n - 1) : Nat) : Int) := by
      rw [Int.one_mul, show ((n : Int) - 1).toNat = n - 1 by omega, Int.natCast_pow]
      rfl
    have le : 2 ^ (n - 1) ≤ 2 ^ 11 := Nat.pow_le_pow_right (by decide) (by omega)
    wtm_at "v"
    refine s_rI (cpow (by omega) (by omega) (by decide)) ?_
    wtm_at "v"
    rw [e0]
    rw [allBitsD] at q
    generalize 2 ^ (n - 1) = N at le q
    refine ⟨by omega, by omega, ?_⟩
    refine s_lc_map (K := K) walk_r0 (sl_lt (by simp only [Int.toNat_natCast]; omega)) w (fun k => lstI (bitsOf n (2 * k + 1))) (fun _ _ => trivial) ?_ ?_
    · rintro D i x H2 H3 hD nz hi r w' ⟨rfl, rfl⟩ F hF
      wtm_at "v"
      refine ⟨rfl, ?_⟩
      wtm_at "v"
      refine s_newl K w' (datL_cons dat_int datL_nil) (by simp) (fun H4 v4 r4 h4 => ?_)
      have w4 := w'.up r4
      wtm_at "v"
      refine ⟨by omega, by omega, ?_⟩
      refine s_lc_map (K := K) walk_r0 (sl_lt (by omega)) w4 (fun j => .int (bitI i j)) (fun _ _ => trivial) ?_ ?_
      · rintro D2 j x H5 H6 hD2 nz2 hj r5 w5 ⟨rfl, rfl⟩ F2 hF2
        wtm_at "v"
        refine ⟨rfl, ?_⟩
        wtm_at "v"
        refine s_rI (Int.natCast_nonneg _) ?_
        wtm_at "v"
        rw [Int.toNat_natCast, shr_and]
        exact hF2 _ _ (R.refl _ _) dat_int
      · intro H5 v5 r5 h5
        have w5 := w4.up r5
        have e5 : (List.range ((n : Int) - 1).toNat).map (fun j => PyData.int (bitI i j)) = (bitsOf (n - 1) i).map .int := by
          rw [show ((n : Int) - 1).toNat = n - 1 by omega, bitsOf, List.map_map]
          rfl
        rw [e5] at h5
        refine s_add_lst w5 (Dat.lift r5 w4.mem h4) h5 (by simp; rw [bitsOf_len, sizeLine_eq]; omega) (fun H6 v6 r6 h6 => ?_)
        have e6 : PyData.list ([PyData.int 1] ++ (bitsOf (n - 1) i).map .int) = lstI (bitsOf n (2 * i + 1)) := by
          obtain ⟨k, rfl⟩ := Nat.exists_eq_add_of_le' n0
          rw [bits_cons]
          rfl
        rw [e6] at h6
        exact hF _ _ (by wtm_at "r") h6
    · intro H2 v2 r2 h2
      rw [Int.toNat_natCast] at h2
      exact q H2 v2 r2 h2
def sp__law_bits (K : PySem.W.Frag) (cl : Cl) : Sp := fun vs H Q _ => ∃ p Z, ∃ n : Nat, vs = [.ref p, .int n] ∧ Wd p Z H ∧ Pot p H ∧ 1 ≤ n ∧ n ≤ 50 ∧ ∀ H' v m, R p H H' → m < 2 ^ n → m.testBit 0 = true → Dat K Z H' (lstI (bitsOf n m)) v → Q v H'
theorem ok__law_bits (T : Tx K mg cl) : FnG P w K mg base 2 T.a__law_bits T.fd__law_bits ["_law_pot_here", "_law_width_here"] (sp__law_bits K cl) := by
  refine FnG.ok T.F__law_bits sc__law_bits (fun vs H Q E h => ?_) (fun cdv A outer s H vs Q E hg hr h => ?_)
  · obtain ⟨_, _, _, rfl, _, _, _, _, _⟩ := h
    rfl
  · obtain ⟨p, Z, n, rfl, w, hp, n0, n1, q⟩ := h
    refine ⟨_, pss_one (ps_ret (pe_op (kx_add (K := K) rfl) (pe_lst (pa_cons (pe_int) pa_nil)) (pe_lc (own := [("_law_spot", 2)]) (g := gName 2) (tt := tYes)  rfl sc__law_bits.nd (pi_range2 rfl T.z_range (pa_cons (pe_int) (pa_cons (pv 1) pa_nil))) (blkOk_by (own := [("_law_spot", 2)]) (N := N__law_bits) (sc := defScope st__law_bits) (by decide +kernel)) (fun _ _ _ _ _ => pg_name (i := 2) sc__law_bits.nd rfl (by first | exact Or.inl rfl | exact Or.inr rfl)) (fun _ _ _ _ _ => pts_nil) (fun _ _ _ _ _ => pe_fn ((ok__law_draw T).at hg (hr.mono (by decide)) (b__law_draw T) .nil passN) rfl T.g__law_draw T.F__law_draw.kp (pa_cons (pv 0) (pa_cons (pe_int) pa_nil)))))), ?_⟩
    try dsimp only [cxg, cxOf, Cx.nox, Cx.wish]
    wtm_at "v"
    refine s_newl K w (datL_cons dat_int datL_nil) (by simp) (fun H1 v1 r1 h1 => ?_)
    have w1 := w.up r1
    wtm_at "v"
    refine ⟨⟨by omega, by omega, by omega, by omega⟩, ?_⟩
    refine s_lc_ints walk_range (sl_lt (by omega)) w1 (fun i ns => ns.length = i ∧ ∀ b ∈ ns, b = 0 ∨ b = 1) ⟨rfl, fun n hn => by cases hn⟩ (fun _ _ => trivial) ?_ ?_
    · rintro D i x H2 H3 ns hD hi ⟨hm, hs⟩ r w' ⟨rfl, rfl⟩ F N hF hN
      wtm_at "v"
      refine ⟨rfl, ?_⟩
      wtm_at "v"
      wtm_at "dr"
      intro H4 d4 r4 a4 b4
      refine hF _ _ r4 ⟨by simp [hm], fun b hb => ?_⟩
      rcases List.mem_append.mp hb with hb | hb
      · exact hs b hb
      · obtain rfl := List.mem_singleton.mp hb
        omega
    · rintro H2 a ns r2 ha hn ⟨hl, hm⟩ hle
      have w2 := w1.up r2
      have h2 : Dat K Z H2 (lstI ns) (.ref a) := dat_lst (w1.ne ha) (.inl hn) (datL_int _)
      refine s_add_lst w2 (Dat.lift r2 w1.mem h1) h2 (by simp; rw [sizeLine_eq]; omega) (fun H3 v3 r3 h3 => ?_)
      obtain ⟨m, lt, e⟩ := exists_mask (1 :: ns) (fun b hb => (List.mem_cons.mp hb).elim .inr (hm b))
      have el : (1 :: ns).length = n := by simp [hl]; omega
      rw [el] at lt e
      refine q H3 v3 m (r1.trans (r2.trans r3)) lt ?_ ?_
      · exact (bitsOf_odd e.symm).mp rfl
      · rw [← e]
        exact h3
def sp__law_spots (K : PySem.W.Frag) (cl : Cl) : Sp := fun vs H Q _ => ∃ p Z l w, vs = [.ref p, .int l, .int w] ∧ Wd p Z H ∧ Pot p H ∧ 0 ≤ l ∧ l ≤ 50 ∧ 0 ≤ w ∧ w ≤ 50 ∧
  ∀ H' a (ns : List Int), R p H H' → H a = none → H' a = some (.lst (ns.map V.int)) → (∀ n ∈ ns, l ≤ n ∧ n < w) → ns.Pairwise (· < ·) → Q (.ref a) H'
theorem ok__law_spots (T : Tx K mg cl) : FnG P w K mg base 2 T.a__law_spots T.fd__law_spots ["_law_pot_here", "_law_least", "_law_width_here"] (sp__law_spots K cl) := by
  refine FnG.ok T.F__law_spots sc__law_spots (fun vs H Q E h => ?_) (fun cdv A outer s H vs Q E hg hr h => ?_)
  · obtain ⟨_, _, _, _, rfl, _, _, _, _, _, _, _⟩ := h
    rfl
  · obtain ⟨p, Z, l, w, rfl, wd, hp, l0, l1, w0, w1, q⟩ := h
    refine ⟨_, pss_cons (ps_set (i := 3) sc__law_spots.nd rfl (by first | exact Or.inl rfl | exact Or.inr rfl) (pe_fn ((ok__law_draw T).at hg (hr.mono (by decide)) (b__law_draw T) .nil passN) rfl T.g__law_draw T.F__law_draw.kp (pa_cons (pv 0) (pa_cons (pe_int) pa_nil))))
    (pss_cons (ps_if (PW.pt (pw_or (pt_cmpR (kx_eq (K := K) rfl hr) (pv 3) (pe_int) (nomark _)) (pw_or1 (pt_cmpR op_le (pv 2) (pv 1) (nomark _))))) (pss_one (ps_ret (pe_lst (pa_nil)))) pss_nil)
    (pss_cons (ps_if (pt_cmpR (kx_eq (K := K) rfl hr) (pv 3) (pe_int) (nomark _)) (pss_one (ps_ret (pe_lst (pa_cons (pe_op (kx_add (K := K) rfl) (pv 1) (pe_fn ((ok__law_draw T).at hg (hr.mono (by decide)) (b__law_draw T) .nil passN) rfl T.g__law_draw T.F__law_draw.kp (pa_cons (pv 0) (pa_cons (pe_op op_sub (pv 2) (pv 1)) pa_nil)))) pa_nil)))) pss_nil)
    (pss_cons (ps_if (pt_cmpR (kx_eq (K := K) rfl hr) (pv 3) (pe_int) (nomark _)) (pss_one (ps_ret (pe_listRg rfl rfl T.z_list (prg_2 rfl T.z_range (pv 1) (pv 2))))) pss_nil)
    (pss_one (ps_ret (pe_lc (own := [("_law_spot", 4)]) (g := gName 4)  rfl sc__law_spots.nd (pi_range2 rfl T.z_range (pa_cons (pv 1) (pa_cons (pv 2) pa_nil))) (blkOk_by (own := [("_law_spot", 4)]) (N := N__law_spots) (sc := defScope st__law_spots) (by decide +kernel)) (fun _ _ _ _ _ => pg_name (i := 4) sc__law_spots.nd rfl (by first | exact Or.inl rfl | exact Or.inr rfl)) (fun _ _ _ _ _ => pts_one (pt_cmpR (kx_eq (K := K) rfl hr) (pe_fn ((ok__law_draw T).at hg (hr.mono (by decide)) (b__law_draw T) .nil passN) rfl T.g__law_draw T.F__law_draw.kp (pa_cons (pv 0) (pa_cons (pe_int) pa_nil))) (pe_int) (nomark _))) (fun _ _ _ _ _ => pv 4))))))), ?_⟩
    try dsimp only [cxg, cxOf, Cx.nox, Cx.wish]
    wtm_at "v"
    refine ⟨p, _, rfl, hp, by decide, by decide, fun H1 d1 r1 a1 b1 => ?_⟩
    have hp1 := r1.pot hp
    have wd1 := wd.up r1
    have old : ∀ {a : Addr}, H1 a = none → H a = none := fun {a} h => R.free r1 (fun z => wd1.occ p wd1.mem (z ▸ h)) h
    wtm_at "v"
    have none_ : ∀ a, H1 a = none → Q (.ref a) (upd H1 a (.lst [])) := fun a ha =>
      q _ a [] (r1.trans (R.new ha)) (old ha) upd_same (fun n hn => by cases hn) List.Pairwise.nil
    refine ite_d (fun h1 => ?_) (fun h1 => ?_)
    · wtm_at "v"
      exact ⟨by simp, fun a ha => none_ a ha⟩
    · wtm_at "v"
      refine ite_d (fun h2 => ?_) (fun h2 => ?_)
      · wtm_at "v"
        exact ⟨by simp, fun a ha => none_ a ha⟩
      · wtm_at "v"
        refine ite_d (fun h3 => ?_) (fun h3 => ?_)
        · wtm_at "v"
          refine ⟨p, _, rfl, hp1, by omega, by omega, fun H2 d2 r2 a2 b2 => ?_⟩
          have wd2 := wd1.up r2
          wtm_at "v"
          refine ⟨by simp; decide, fun a ha => ?_⟩
          refine q _ a [l + d2] (r1.trans (r2.trans (R.new ha))) (R.free (r1.trans r2) (fun z => wd2.occ p wd2.mem (z ▸ ha)) ha) upd_same (fun n hn => ?_) (by simp)
          obtain rfl := List.mem_singleton.mp hn
          omega
        · wtm_at "v"
          refine ite_d (fun h4 => ?_) (fun h4 => ?_)
          · wtm_at "v"
            refine ⟨_, _, rfl, rfl, RgOk.of_le (by omega) (by omega) (by omega) (by omega), fun a ha => ?_⟩
            rw [rgV_ints]
            exact q _ a _ (r1.trans (R.new ha)) (old ha) upd_same (fun n hn => rg_mem hn) rg_lt
          · wtm_at "v"
            refine ⟨⟨by omega, by omega, by omega, by omega⟩, ?_⟩
            refine s_lc_ints walk_range (sl_lt (by omega)) wd1 (fun i ns => (∀ n ∈ ns, l ≤ n ∧ n < l + i) ∧ ns.Pairwise (· < ·)) ⟨fun n hn => (by cases hn), List.Pairwise.nil⟩ (fun _ _ => trivial) ?_ ?_
            · rintro D i x H2 H3 ns hD hi ⟨hm, hs⟩ r w' ⟨rfl, rfl⟩ F N hF hN
              have hp2 := r.pot hp1
              wtm_at "v"
              refine ⟨rfl, ?_⟩
              wtm_at "v"
              refine ⟨p, _, rfl, hp2, by decide, by decide, fun H4 d4 r4 a4 b4 => ?_⟩
              wtm_at "v"
              refine ite_d (fun h5 => ?_) (fun h5 => ?_)
              · wtm_at "v"
                refine hF _ _ r4 ⟨fun n hn => ?_, ?_⟩
                · rcases List.mem_append.mp hn with hn | hn
                  · have := hm n hn
                    omega
                  · obtain rfl := List.mem_singleton.mp hn
                    omega
                · rw [List.pairwise_append]
                  refine ⟨hs, by simp, fun a ha b hb => ?_⟩
                  obtain rfl := List.mem_singleton.mp hb
                  have := hm a ha
                  omega
              · exact hN _ r4 ⟨fun n hn => by have := hm n hn; omega, hs⟩
            · rintro H2 a ns r2 ha hn ⟨hm, hs⟩ hle
              exact q _ a ns (r1.trans r2) (old ha) hn (fun n hn => by have := hm n hn; omega) hs
def sp__law_pair (K : PySem.W.Frag) (cl : Cl) : Sp := fun vs H Q _ => ∃ p Z, ∃ n : Nat, vs = [.ref p, .int n] ∧ Wd p Z H ∧ Pot p H ∧ 1 ≤ n ∧ n ≤ 40 ∧ ∀ H' u ts gs, R p H H' → PairOk n ts gs → Dat K Z H' (pairD ts gs) u → Q u H'
theorem ok__law_pair (T : Tx K mg cl) : FnG P w K mg base 3 T.a__law_pair T.fd__law_pair ["_law_pot_here", "_law_width_here"] (sp__law_pair K cl) := by
  refine FnG.ok T.F__law_pair sc__law_pair (fun vs H Q E h => ?_) (fun cdv A outer s H vs Q E hg hr h => ?_)
  · obtain ⟨_, _, _, rfl, _, _, _, _, _⟩ := h
    rfl
  · obtain ⟨p, Z, n, rfl, w, hp, n0, n1, q⟩ := h
    refine ⟨_, pss_cons ((by first | exact ps_par (i := 2) (j := 3) (by rfl) sc__law_pair.nd rfl rfl (by decide) rfl rfl (pa_cons (pe_fn ((ok__law_spots T).at hg (hr.mono (by decide)) (b__law_spots T) .nil passN) rfl T.g__law_spots T.F__law_spots.kp (pa_cons (pv 0) (pa_cons (pe_int) (pa_cons (pv 1) pa_nil)))) (pa_cons (pe_fn ((ok__law_spots T).at hg (hr.mono (by decide)) (b__law_spots T) .nil passN) rfl T.g__law_spots T.F__law_spots.kp (pa_cons (pv 0) (pa_cons (pe_int) (pa_cons (pv 1) pa_nil)))) pa_nil)) (by rfl) | exact ps_asg (pe_tup (pa_cons (pe_fn ((ok__law_spots T).at hg (hr.mono (by decide)) (b__law_spots T) .nil passN) rfl T.g__law_spots T.F__law_spots.kp (pa_cons (pv 0) (pa_cons (pe_int) (pa_cons (pv 1) pa_nil)))) (pa_cons (pe_fn ((ok__law_spots T).at hg (hr.mono (by decide)) (b__law_spots T) .nil passN) rfl T.g__law_spots T.F__law_spots.kp (pa_cons (pv 0) (pa_cons (pe_int) (pa_cons (pv 1) pa_nil)))) pa_nil))) (pg_tupK (K := K) rfl rfl (pgs_cons (pg_name (i := 2) sc__law_pair.nd rfl (by first | exact Or.inl rfl | exact Or.inr rfl)) (pgs_cons (pg_name (i := 3) sc__law_pair.nd rfl (by first | exact Or.inl rfl | exact Or.inr rfl)) pgs_nil)))))
    (pss_cons ((by first | exact ps_setLc (i := 4) (own := [("_law_spot", 5)]) (g := gName 5)  rfl sc__law_pair.nd rfl rfl (sw_true rfl rfl rfl (by decide +kernel)) (pi_seq (K := K) rfl (pv 2)) (blkOk_by (own := [("_law_spot", 5)]) (N := N__law_pair) (sc := defScope st__law_pair) (by decide +kernel)) (fun _ _ _ _ _ => pg_name (i := 5) sc__law_pair.nd rfl (by first | exact Or.inl rfl | exact Or.inr rfl)) (fun _ _ _ _ _ => pts_one (pt_cmpR (kx_in (K := K) rfl) (pv 5) (pv 3) rfl)) (fun _ _ _ _ _ => pv 5) | exact ps_set (i := 4) sc__law_pair.nd rfl (by first | exact Or.inl rfl | exact Or.inr rfl) (pe_lc (own := [("_law_spot", 5)]) (g := gName 5)  rfl sc__law_pair.nd (pi_seq (K := K) rfl (pv 2)) (blkOk_by (own := [("_law_spot", 5)]) (N := N__law_pair) (sc := defScope st__law_pair) (by decide +kernel)) (fun _ _ _ _ _ => pg_name (i := 5) sc__law_pair.nd rfl (by first | exact Or.inl rfl | exact Or.inr rfl)) (fun _ _ _ _ _ => pts_one (pt_cmpR (kx_in (K := K) rfl) (pv 5) (pv 3) rfl)) (fun _ _ _ _ _ => pv 5))))
    (pss_cons (ps_if (pt_cmpR (kx_eq (K := K) rfl hr) (pe_op op_modA (pe_callB (kx_len (K := K) rfl) (by rfl) T.z_len bt_len (pa_cons (pv 4) pa_nil)) (pe_int)) (pe_int) (nomark _)) (pss_one (ps_ret (pe_tup (pa_cons (pv 2) (pa_cons (pv 3) pa_nil))))) pss_nil)
    (pss_cons (ps_set (i := 6) sc__law_pair.nd rfl (by first | exact Or.inl rfl | exact Or.inr rfl) (pe_ix (kx_ix (K := K) rfl) (pv 4) (pe_fn ((ok__law_draw T).at hg (hr.mono (by decide)) (b__law_draw T) .nil passN) rfl T.g__law_draw T.F__law_draw.kp (pa_cons (pv 0) (pa_cons (pe_callB (kx_len (K := K) rfl) (by rfl) T.z_len bt_len (pa_cons (pv 4) pa_nil)) pa_nil))) (fun _ _ => rfl)))
    (pss_cons (ps_if (pt_cmpR (kx_eq (K := K) rfl hr) (pe_fn ((ok__law_draw T).at hg (hr.mono (by decide)) (b__law_draw T) .nil passN) rfl T.g__law_draw T.F__law_draw.kp (pa_cons (pv 0) (pa_cons (pe_int) pa_nil))) (pe_int) (nomark _)) (pss_one (ps_ret (pe_tup (pa_cons (pe_lc (own := [("_law_spot", 5)]) (g := gName 5)  rfl sc__law_pair.nd (pi_seq (K := K) rfl (pv 2)) (blkOk_by (own := [("_law_spot", 5)]) (N := N__law_pair) (sc := defScope st__law_pair) (by decide +kernel)) (fun _ _ _ _ _ => pg_name (i := 5) sc__law_pair.nd rfl (by first | exact Or.inl rfl | exact Or.inr rfl)) (fun _ _ _ _ _ => pts_one (pt_cmpR (kx_ne (K := K) rfl hr) (pv 5) (pv 6) (nomark _))) (fun _ _ _ _ _ => pv 5)) (pa_cons (pv 3) pa_nil))))) pss_nil)
    (pss_one (ps_ret (pe_tup (pa_cons (pv 2) (pa_cons (pe_lc (own := [("_law_spot", 5)]) (g := gName 5)  rfl sc__law_pair.nd (pi_seq (K := K) rfl (pv 3)) (blkOk_by (own := [("_law_spot", 5)]) (N := N__law_pair) (sc := defScope st__law_pair) (by decide +kernel)) (fun _ _ _ _ _ => pg_name (i := 5) sc__law_pair.nd rfl (by first | exact Or.inl rfl | exact Or.inr rfl)) (fun _ _ _ _ _ => pts_one (pt_cmpR (kx_ne (K := K) rfl hr) (pv 5) (pv 6) (nomark _))) (fun _ _ _ _ _ => pv 5)) pa_nil))))))))), ?_⟩
    try dsimp only [cxg, cxOf, Cx.nox, Cx.wish]
    wtm_at "v"
    refine ⟨p, Z, 0, n, rfl, w, hp, by decide, by decide, by omega, by omega, fun H1 a1 ts r1 ha1 h1 tr ta => ?_⟩
    have lt := asc_len tr ta (by omega)
    wtm_at "v"
    refine ⟨p, Z, 1, n, rfl, by wtm_at "w", by wtm_at "p", by decide, by decide, by omega, by omega, fun H2 a2 gs r2 ha2 h2 gr ga => ?_⟩
    have lg := asc_len gr ga (by omega)
    have w1 := w.up r1
    have d1 : Dat K Z H1 (lstI ts) (.ref a1) := dat_lst (w.ne ha1) (.inl h1) (datL_int _)
    have d2 : Dat K Z H2 (lstI gs) (.ref a2) := dat_lst (w1.ne ha2) (.inl h2) (datL_int _)
    clear h1 h2
    wtm_at "v"
    refine ⟨by simp; decide, fun t0 ht0 => ?_⟩
    have rt : R p H2 (upd H2 t0 (.tup [.ref a1, .ref a2])) := R.new ht0
    have ht : (upd H2 t0 (.tup [.ref a1, .ref a2])) t0 = some (.tup [.ref a1, .ref a2]) := upd_same
    generalize upd H2 t0 (.tup [.ref a1, .ref a2]) = H3 at rt ht
    refine s_gtup (.inl (.inl ht)) rfl ?_
    have w3 : Wd p Z H3 := by wtm_at "w"
    wtm_at "v"
    refine s_iSeq (d := lstI ts) rfl w3 (by wtm_at "d") rfl (fun J G xs wk hG dl => ?_)
    have ey := dl.ints
    subst ey
    refine s_lc_filt wk (by omega) w3 (fun t => decide (t ∈ gs)) hG (fun x => ⟨rfl, rfl⟩) ?_ ?_
    · intro D x H4 hD hx r4 w4 QT hQ
      wtm_at "v"
      refine s_in_ints (Z := Z) (d := lstI gs) (ns := gs) (by wtm_at "d") rfl ?_
      wtm_at "v"
      exact hQ _ (R.refl _ _)
    · intro H4 a4 r4 ha4 h4
      have w4 := w3.up r4
      have d4 : Dat K Z H4 (lstI (ts.filter fun t => decide (t ∈ gs))) (.ref a4) := dat_lst (w3.ne ha4) (.inl h4) (datL_int _)
      have lf := List.length_filter_le (fun t => decide (t ∈ gs)) ts
      wtm_at "v"
      refine s_len_lst d4 ?_
      rw [List.length_map]
      wtm_at "v"
      refine ite_d (fun od => ?_) (fun od => ?_)
      · wtm_at "v"
        refine s_newt K w4 (datL_cons (d := lstI ts) (by wtm_at "d") (datL_cons (d := lstI gs) (by wtm_at "d") datL_nil)) (by simp) (fun H8 v8 r8 h8 => ?_)
        exact q H8 v8 ts gs (by wtm_at "r") ⟨tr, ta, gr, ga, by omega⟩ h8
      · have od' : (ts.filter fun t => decide (t ∈ gs)).length % 2 = 1 := by omega
        wtm_at "v"
        refine s_len_lst d4 ?_
        rw [List.length_map]
        refine ⟨p, _, rfl, by wtm_at "p", by omega, by omega, fun H5 d5 r5 a5 b5 => ?_⟩
        obtain ⟨d5, rfl⟩ := Int.eq_ofNat_of_zero_le a5
        refine s_script (.inl (.inl (r5.lst (w3.neq ha4) h4))) (by omega) (fun g hg => ?_)
        have gm : g ∈ ts.filter fun t => decide (t ∈ gs) := List.mem_of_getElem? hg
        wtm_at "v"
        refine ⟨p, _, rfl, by wtm_at "p", by decide, by decide, fun H6 d6 r6 a6 b6 => ?_⟩
        have w6 : Wd p Z H6 := by wtm_at "w"
        wtm_at "v"
        refine ite_d (fun _ => ?_) (fun _ => ?_)
        · wtm_at "v"
          refine s_iSeq (d := lstI ts) rfl w6 (by wtm_at "d") rfl (fun J G xs wk hG dl => ?_)
          have ey := dl.ints
          subst ey
          refine s_lc_filt wk (by omega) w6 (fun t => !decide (t = g)) hG (fun x => ⟨rfl, rfl⟩) ?_ ?_
          · intro D x H7 hD hx r7 w7 QT hQ
            wtm_at "v"
            exact hQ _ (R.refl _ _)
          · intro H7 a7 r7 ha7 h7
            have w7 := w6.up r7
            wtm_at "v"
            refine s_newt K w7 (datL_cons (ds := [lstI gs]) (dat_lst (w6.ne ha7) (.inl h7) (datL_int _)) (datL_cons (by wtm_at "d") datL_nil)) (by simp) (fun H8 v8 r8 h8 => ?_)
            exact q H8 v8 _ gs (by wtm_at "r") (PairOk.lessT tr ta gr ga od' gm) h8
        · wtm_at "v"
          refine s_iSeq (d := lstI gs) rfl w6 (by wtm_at "d") rfl (fun J G xs wk hG dl => ?_)
          have ey := dl.ints
          subst ey
          refine s_lc_filt wk (by omega) w6 (fun t => !decide (t = g)) hG (fun x => ⟨rfl, rfl⟩) ?_ ?_
          · intro D x H7 hD hx r7 w7 QT hQ
            wtm_at "v"
            exact hQ _ (R.refl _ _)
          · intro H7 a7 r7 ha7 h7
            have w7 := w6.up r7
            wtm_at "v"
            refine s_newt K w7 (datL_cons (d := lstI ts) (by wtm_at "d") (datL_cons (dat_lst (w6.ne ha7) (.inl h7) (datL_int _)) datL_nil)) (by simp) (fun H8 v8 r8 h8 => ?_)
            exact q H8 v8 ts _ (by wtm_at "r") (PairOk.lessG tr ta gr ga od' gm) h8
def sp_mask_of_cells (K : PySem.W.Frag) (cl : Cl) : Sp := fun vs H Q _ => ∃ p Z v d ns, vs = [v] ∧ Wd p Z H ∧ Dat K Z H d v ∧ seqD d = some (ns.map .int) ∧ (∀ n ∈ ns, 0 ≤ n ∧ n < 64) ∧ ns.length ≤ 1000 ∧ ∀ H', R p H H' → Q (.int (maskI ns)) H'
theorem ok_mask_of_cells (T : Tx K mg cl) : FnG P w K mg base 1 T.a_mask_of_cells T.fd_mask_of_cells ["cells"] (sp_mask_of_cells K cl) := by
  refine FnG.ok T.F_mask_of_cells sc_mask_of_cells (fun vs H Q E h => ?_) (fun cdv A outer s H vs Q E hg hr h => ?_)
  · obtain ⟨_, _, _, _, _, rfl, _, _, _, _, _, _⟩ := h
    rfl
  · obtain ⟨p, Z, v, d, ns, rfl, w, hd, hs, hm, hl, q⟩ := h
    refine ⟨_, pss_one (ps_ret (pe_callB (kx_sum (K := K) rfl rfl) (by rfl) T.z_sum bt_sum (pa_cons (pe_lc (own := [("cell", 1)]) (g := gName 1) (tt := tYes)  rfl sc_mask_of_cells.nd (pi_seq (K := K) rfl (pv 0)) (blkOk_by (own := [("cell", 1)]) (N := N_mask_of_cells) (sc := defScope st_mask_of_cells) (by decide +kernel)) (fun _ _ _ _ _ => pg_name (i := 1) sc_mask_of_cells.nd rfl (by first | exact Or.inl rfl | exact Or.inr rfl)) (fun _ _ _ _ _ => pts_nil) (fun _ _ _ _ _ => pe_op op_shl (pe_int) (pv 1))) pa_nil))), ?_⟩
    try dsimp only [cxg, cxOf, Cx.nox, Cx.wish]
    wtm_at "v"
    refine s_iSeq rfl w hd hs (fun J G xs wk hG l => ?_)
    have ey := l.ints
    subst ey
    refine s_lc_map (K := K) wk (sl_lt (by simp; omega)) w (fun i => .int (1 * 2 ^ (ns.getD i 0).toNat)) hG ?_ ?_
    · rintro D i x H2 H3 hD nz hi r w' ⟨rfl, hx⟩ F hF
      have hi' : i < ns.length := by simpa using hi
      have ex : x = .int (ns.getD i 0) := by simpa [hi'] using hx.symm
      subst ex
      have hb := hm (ns.getD i 0) (by simp [hi'])
      wtm_at "v"
      refine ⟨rfl, ?_⟩
      wtm_at "v"
      refine s_rI (cpow hb.1 (by omega) (by decide)) ?_
      exact hF _ _ (R.refl _ _) dat_int
    · intro H2 v2 r2 hv2
      have e : (List.range (ns.map PyData.int).length).map (fun i => PyData.int (1 * 2 ^ (ns.getD i 0).toNat)) = (ns.map fun n => (1 : Int) * 2 ^ n.toNat).map .int := by
        rw [List.length_map, List.map_map]
        exact map_getD ns 0 (fun n => PyData.int (1 * 2 ^ n.toNat))
      rw [e] at hv2
      wtm_at "v"
      refine s_sum hv2 ?_
      exact q _ r2
def sp_is_integer_in (K : PySem.W.Frag) (cl : Cl) : Sp := fun vs H Q _ => ∃ p Z v d lo hi, vs = [v, .int lo, .int hi] ∧ Wd p Z H ∧ Dat K Z H d v ∧ Q (.bl (intIn d lo hi)) H
theorem ok_is_integer_in (T : Tx K mg cl) : FnG P w K mg base 1 T.a_is_integer_in T.fd_is_integer_in ["thing", "low", "high"] (sp_is_integer_in K cl) := by
  refine FnG.ok T.F_is_integer_in sc_is_integer_in (fun vs H Q E h => ?_) (fun cdv A outer s H vs Q E hg hr h => ?_)
  · obtain ⟨_, _, _, _, _, _, rfl, _, _, _⟩ := h
    rfl
  · obtain ⟨p, Z, v, d, lo, hi, rfl, w, hd, q⟩ := h
    refine ⟨_, pss_one (ps_ret (pe_and (pe_callB (kx_isi (K := K) rfl) (by rfl) T.z_isinstance bt_isinstance (pa_cons (pv 0) (pa_cons (pe_bltn (v := .ty "int") (by rfl) T.z_int bt_int rfl) pa_nil))) (pe_and (pe_not (pe_callB (kx_isi (K := K) rfl) (by rfl) T.z_isinstance bt_isinstance (pa_cons (pv 0) (pa_cons (pe_bltn (v := .ty "bool") (by rfl) T.z_bool bt_bool rfl) pa_nil)))) (pe_one (pe_chain op_le op_le (pv 1) (pv 0) (pv 2)))))), ?_⟩
    try dsimp only [cxg, cxOf, Cx.nox, Cx.wish]
    wtm_at "v"
    refine s_isi hd (by simp) ?_
    wtm_at "v"
    refine ite_b (fun h => ?_) (fun h => ?_)
    · wtm_at "v"
      refine s_isi hd (by simp) ?_
      wtm_at "v"
      refine ite_nb (fun h2 => ?_) (fun h2 => ?_)
      · obtain ⟨i, rfl⟩ := int_yes2 h h2
        have ez := hd.int
        subst ez
        wtm_at "v"
        refine ite_d (fun h3 => ?_) (fun h3 => ?_)
        · wtm_at "v"
          have e : intIn (.int i) lo hi = decide (i ≤ hi) := by simp [intIn, h3]
          rw [← e]
          exact q
        · have e : intIn (.int i) lo hi = false := by simp [intIn, h3]
          rw [← e]
          exact q
      · rw [← intIn_no2 (lo := lo) (hi := hi) h2]
        exact q
    · rw [← intIn_no (lo := lo) (hi := hi) h]
      exact q
def sp_is_cell (K : PySem.W.Frag) (cl : Cl) : Sp := fun vs H Q _ => ∃ p Z v d s, vs = [v, .int s] ∧ Wd p Z H ∧ Dat K Z H d v ∧ Q (.bl (intIn d 0 (s - 1))) H
theorem ok_is_cell (T : Tx K mg cl) : FnG P w K mg base 2 T.a_is_cell T.fd_is_cell ["thing", "size"] (sp_is_cell K cl) := by
  refine FnG.ok T.F_is_cell sc_is_cell (fun vs H Q E h => ?_) (fun cdv A outer s H vs Q E hg hr h => ?_)
  · obtain ⟨_, _, _, _, _, rfl, _, _, _⟩ := h
    rfl
  · obtain ⟨p, Z, v, d, s, rfl, w, hd, q⟩ := h
    refine ⟨_, pss_one (ps_ret (pe_fn ((ok_is_integer_in T).at hg (hr.mono (by decide)) (b_is_integer_in T) .nil passN) rfl T.g_is_integer_in T.F_is_integer_in.kp (pa_cons (pv 0) (pa_cons (pe_int) (pa_cons (pe_op op_sub (pv 1) (pe_int)) pa_nil))))), ?_⟩
    try dsimp only [cxg, cxOf, Cx.nox, Cx.wish]
    wtm_at "v"
    exact ⟨p, Z, v, d, 0, s - 1, rfl, w, hd, q⟩
def sp_cell_tuple (K : PySem.W.Frag) (cl : Cl) : Sp := fun vs H Q E => ∃ p Z v d s, vs = [v, .int s] ∧ Wd p Z H ∧ Dat K Z H d v ∧ Tame d 40 50000 ∧
  (∀ ns, cellsD d s = some ns → ∀ H' t, R p H H' → H' t = some (.tup (ns.map V.int)) → H t = none → Q (.ref t) H') ∧
  (cellsD d s = none → ∀ H' b, R p H H' → H' b = some (.xd [("cells", v)]) → H b = none → E (.ref cl.NoCells) (some b) H')
theorem ok_cell_tuple (T : Tx K mg cl) : FnG P w K mg base 3 T.a_cell_tuple T.fd_cell_tuple ["things", "size"] (sp_cell_tuple K cl) := by
  refine FnG.okX T.F_cell_tuple sc_cell_tuple (fun vs H Q E h => ?_) (fun cdv A outer s H vs Q E hg hr h => ?_)
  · obtain ⟨_, _, _, _, _, rfl, _, _, _, _, _⟩ := h
    rfl
  · obtain ⟨p, Z, v, d, s, rfl, w, hd, t, qy, qn⟩ := h
    refine ⟨_, pss_cons (ps_if (PW.pt (pw_or (pt_not (pt_val (pe_callB (kx_isiT (K := K) rfl) (by rfl) T.z_isinstance bt_isinstance (pa_cons (pv 0) (pa_cons (pe_tup (pa_cons (pe_bltn (v := .ty "list") (by rfl) T.z_list bt_list rfl) (pa_cons (pe_bltn (v := .ty "tuple") (by rfl) T.z_tuple bt_tuple rfl) pa_nil))) pa_nil))))) (pw_or1 (pt_not (pt_val (pe_callB (kx_all (K := K) rfl rfl) (by rfl) T.z_all bt_all (pa_cons (pe_lc (own := [("one", 2)]) (g := gName 2) (tt := tYes)  rfl sc_cell_tuple.nd (pi_seq (K := K) rfl (pv 0)) (blkOk_by (own := [("one", 2)]) (N := N_cell_tuple) (sc := defScope st_cell_tuple) (by decide +kernel)) (fun _ _ _ _ _ => pg_name (i := 2) sc_cell_tuple.nd rfl (by first | exact Or.inl rfl | exact Or.inr rfl)) (fun _ _ _ _ _ => pts_nil) (fun _ _ _ _ _ => pe_fnK ((ok_is_cell T).atK hg (hr.mono (by decide)) (kb_is_cell__1_size T) passN) rfl T.g_is_cell T.F_is_cell.kp (pa_cons (pv 2) pa_nil) (pk_cons (pv 1) pk_nil))) pa_nil))))))) (pss_one (ps_err (k := 0) rfl T.e_NoCells er_rel1 (hr.mono (by decide)) (takes_of rfl rfl rfl rfl) (pa_cons (pv 0) pa_nil) rfl)) pss_nil)
    (pss_cons (ps_set (i := 3) sc_cell_tuple.nd rfl (by first | exact Or.inl rfl | exact Or.inr rfl) (pe_callB (kx_sorted (K := K) rfl) (by rfl) T.z_sorted bt_sorted (pa_cons (pv 0) pa_nil)))
    (pss_cons (ps_if (pt_not (pt_val (pe_callB (kx_all (K := K) rfl rfl) (by rfl) T.z_all bt_all (pa_cons (pe_lc (own := [("one", 2), ("other", 4)]) (g := gTup K 2 (gCons (gName 2) (gCons (gName 4) (gNil)))) (tt := tYes)  rfl sc_cell_tuple.nd (pi_zipK (K := K) rfl (by rfl) T.z_zip (pa_cons (pv 3) (pa_cons (pe_slice (kx_sl (K := K) rfl) (pv 3) (po_some (pe_int)) po_none) pa_nil))) (blkOk_by (own := [("one", 2), ("other", 4)]) (N := N_cell_tuple) (sc := defScope st_cell_tuple) (by decide +kernel)) (fun _ _ _ _ _ => pg_tupK (K := K) rfl rfl (pgs_cons (pg_name (i := 2) sc_cell_tuple.nd rfl (by first | exact Or.inl rfl | exact Or.inr rfl)) (pgs_cons (pg_name (i := 4) sc_cell_tuple.nd rfl (by first | exact Or.inl rfl | exact Or.inr rfl)) pgs_nil))) (fun _ _ _ _ _ => pts_nil) (fun _ _ _ _ _ => pe_cmpR op_lt (pv 2) (pv 4) (nomark _))) pa_nil)))) (pss_one (ps_err (k := 0) rfl T.e_NoCells er_rel1 (hr.mono (by decide)) (takes_of rfl rfl rfl rfl) (pa_cons (pv 0) pa_nil) rfl)) pss_nil)
    (pss_one (ps_ret (pe_callTy (kx_tuple (K := K) rfl) (by rfl) T.z_tuple bt_tuple (pa_cons (pv 3) pa_nil)))))), ?_⟩
    try dsimp only [cxg, cxOf, Cx.nox, Cx.wish]
    wtm_at "v"
    refine ⟨by simp; decide, fun tp htp => ?_⟩
    have r1 : R p H (upd H tp (.tup [.ty "list", .ty "tuple"])) := R.new htp
    have up1 : upd H tp (.tup [.ty "list", .ty "tuple"]) tp = some (.tup [.ty "list", .ty "tuple"]) := upd_same
    generalize upd H tp (.tup [.ty "list", .ty "tuple"]) = H1 at r1 up1
    have w1 := w.up r1
    have hd1 := hd.to w r1
    wtm_at "v"
    refine s_isiLT hd1 up1 ?_
    wtm_at "v"
    refine ite_nb (fun h => ?_) (fun h => ?_)
    · wtm_at "v"
      exact ⟨rfl, fun b hb => qn (cellsD_no h) _ b (r1.trans (R.new hb)) upd_same (R.free r1 (fun z => w1.occ p w1.mem (z ▸ hb)) hb)⟩
    · obtain ⟨ds, hs⟩ := seq_yes h
      have few := tame_len t hs
      wtm_at "v"
      refine s_iSeq rfl w1 hd1 hs (fun J G xs wk hG l => ?_)
      refine s_lc_map (K := K) wk (sl_lt few) w1 (fun i => .bool (intIn (ds.getD i .none) 0 (s - 1))) hG ?_ ?_
      · rintro D i x H2 H3 hD nz hi r w' ⟨rfl, hx⟩ F hF
        have hi' : i < ds.length := hi
        obtain ⟨y, hy, hde⟩ := l.get (List.getElem?_eq_getElem hi')
        obtain rfl : x = y := Option.some.inj (hx.symm.trans hy)
        wtm_at "v"
        refine ⟨rfl, ?_⟩
        wtm_at "v"
        have hde3 : Dat K Z _ ds[i] x := hde.to w1 r
        refine ⟨p, Z, x, ds[i], s, rfl, ⟨w'.one, fun b hb => w'.occ b (List.mem_cons_of_mem _ hb), w.mem⟩, hde3, ?_⟩
        have e2 : ds.getD i .none = ds[i] := by simp [hi']
        rw [← e2]
        exact hF _ _ (R.refl _ _) dat_bl
      · intro H2 v2 r2 hv2
        rw [range_bl (f := fun d => intIn d 0 (s - 1)) ds .none] at hv2
        wtm_at "v"
        refine s_all hv2 ?_
        have w2 := w1.up r2
        have hd2 := hd1.to w1 r2
        wtm_at "v"
        refine ite_nb (fun h3 => ?_) (fun h3 => ?_)
        · wtm_at "v"
          have e : cellsD d s = none := by
            rw [cellsD_seq hs, areCells]
            rw [List.all_map] at h3
            simp only [Function.comp_def, id] at h3
            rw [h3]
            simp
          exact ⟨rfl, fun b hb => qn e _ b (r1.trans (r2.trans (R.new hb))) upd_same (R.free (r1.trans r2) (fun z => w2.occ p w2.mem (z ▸ hb)) hb)⟩
        · have h3' : (ds.all fun d => intIn d 0 (s - 1)) = true := by
            rw [List.all_map] at h3
            simpa only [Function.comp_def, id] using h3
          have eds := intsOf h3'
          obtain ⟨a, ys, rfl, l2, hq⟩ := hd2.seq hs
          rw [eds] at l2
          have ey := l2.ints
          subst ey
          wtm_at "v"
          refine ⟨a, intsD ds, rfl, hq.elim (fun h => .inl h.1) (fun h => .inr h.1), fun ms b hp hle hb => ?_⟩
          obtain rfl := isort_is hp hle
          have r3 : R p H2 (upd H2 b (.lst ((isort (intsD ds)).map V.int))) := R.new hb
          have up3 : (upd H2 b (.lst ((isort (intsD ds)).map V.int))) b = some (.lst ((isort (intsD ds)).map V.int)) := upd_same
          generalize upd H2 b (.lst ((isort (intsD ds)).map V.int)) = H3 at r3 up3
          have w3 := w2.up r3
          have np : b ≠ p := fun z => by rw [z] at hb; exact w2.occ p w2.mem hb
          have nZ : b ∉ Z := w2.ne hb
          have hd3 : Dat K Z H3 (lstI (isort (intsD ds))) (.ref b) := dat_lst nZ (.inl up3) (datL_int _)
          have ln : (isort (intsD ds)).length = ds.length := by
            rw [(isort_perm _).length_eq]
            conv => rhs; rw [eds]
            simp
          wtm_at "v"
          refine s_sl_lst w3 hd3 (fun H4 u r4 hu => ?_)
          have w4 := w3.up r4
          have up4 : H4 b = some (.lst ((isort (intsD ds)).map V.int)) := r4.keep b _ np up3
          rw [sli_1, ← List.map_drop] at hu
          generalize em : isort (intsD ds) = ms at up4 hu hle ln hd3 up3
          obtain ⟨a2, ys, rfl, n2, h2, l3⟩ := hu.lst
          have ey := l3.ints
          subst ey
          wtm_at "v"
          refine ⟨b, a2, ms.map V.int, (ms.drop 1).map V.int, rfl, .inl ⟨.inl (.inl up4), .inl h2, ?_⟩⟩
          refine s_lc_pair (K := K) (n := min ms.length (ms.drop 1).length) (walk_zip (xs := ms.map V.int) (ys := (ms.drop 1).map V.int) (by simp)) (sl_lt (by have := few; simp; omega)) w4
            (fun i => .bool (decide (ms.getD i 0 < ms.getD (i + 1) 0))) (fun H' r => ⟨.inl (.inl (r.keep b _ np up4)), ?_⟩) ?_ ?_
          · rcases h2 with h2 | ⟨o, h2⟩
            · exact .inl (.inl (r.keep a2 _ (fun z => n2 (z ▸ w4.mem)) h2))
            · exact .inl (.inr ⟨o, r.frz _ _ _ h2⟩)
          · intro D i x y H5 hD nz hi hx hy r w' F hF
            have h1 : i < ms.length := by simp at hi; omega
            have h2 : i + 1 < ms.length := by simp at hi; omega
            have ex : x = .int (ms.getD i 0) := by simpa [h1] using hx.symm
            have ey : y = .int (ms.getD (i + 1) 0) := by simpa [h2, Nat.add_comm 1 i] using hy.symm
            subst ex ey
            refine ⟨rfl, ?_⟩
            wtm_at "v"
            exact hF _ _ (R.refl _ _) dat_bl
          · intro H5 v5 r5 hv5
            rw [zip_asc] at hv5
            wtm_at "v"
            refine s_all hv5 ?_
            have w5 := w4.up r5
            have asc := asc_nodup hle
            have nd : (intsD ds).Nodup ↔ ms.Nodup := by rw [← em]; exact (isort_perm _).nodup_iff.symm
            have ec : cellsD d s = if (intsD ds).Nodup then some ms else none := by
              rw [cellsD_seq hs, areCells, h3', em]
              by_cases c : (intsD ds).Nodup <;> simp [c]
            rw [List.all_map] at *
            simp only [Function.comp_def, id] at *
            wtm_at "v"
            refine ite_nb (fun h5 => ?_) (fun h5 => ?_)
            · wtm_at "v"
              have e : cellsD d s = none := by
                rw [ec, if_neg]
                rw [nd, ← asc, h5]
                decide
              exact ⟨rfl, fun c hc => qn e _ c (r1.trans (r2.trans (r3.trans (r4.trans (r5.trans (R.new hc)))))) upd_same (R.free (r1.trans (r2.trans (r3.trans (r4.trans r5)))) (fun z => w5.occ p w5.mem (z ▸ hc)) hc)⟩
            · have e : cellsD d s = some ms := by
                rw [ec, if_pos]
                rw [nd, ← asc, h5]
              have up5 : H5 b = some (.lst (ms.map V.int)) := r5.keep b _ np up4
              wtm_at "v"
              refine ⟨b, ms.map V.int, rfl, .inl ⟨.inl (.inl up5), fun c hc => ?_⟩⟩
              have far := r1.trans (r2.trans (r3.trans (r4.trans (r5.trans (R.new (o := .tup (ms.map V.int)) hc)))))
              exact qy ms e _ c far upd_same (R.free (r1.trans (r2.trans (r3.trans (r4.trans r5)))) (fun z => w5.occ p w5.mem (z ▸ hc)) hc)
def sp_cell_mask (K : PySem.W.Frag) (cl : Cl) : Sp := fun vs H Q E => ∃ p Z v d s, vs = [v, .int s] ∧ Wd p Z H ∧ Dat K Z H d v ∧ Tame d 40 1000 ∧ s ≤ 64 ∧
  (∀ ns, cellsD d s = some ns → ∀ H', R p H H' → Q (.int (maskI ns)) H') ∧
  (cellsD d s = none → ∀ H' b, R p H H' → H' b = some (.xd [("cells", v)]) → H b = none → E (.ref cl.NoCells) (some b) H')
theorem ok_cell_mask (T : Tx K mg cl) : FnG P w K mg base 4 T.a_cell_mask T.fd_cell_mask ["things", "size"] (sp_cell_mask K cl) := by
  refine FnG.okX T.F_cell_mask sc_cell_mask (fun vs H Q E h => ?_) (fun cdv A outer s H vs Q E hg hr h => ?_)
  · obtain ⟨_, _, _, _, _, rfl, _, _, _, _, _, _⟩ := h
    rfl
  · obtain ⟨p, Z, v, d, s, rfl, w, hd, t, hs, qy, qn⟩ := h
    refine ⟨_, pss_one (ps_ret (pe_fn ((ok_mask_of_cells T).at hg (hr.mono (by decide)) (b_mask_of_cells T) .nil passN) rfl T.g_mask_of_cells T.F_mask_of_cells.kp (pa_cons (pe_fnKS ((ok_cell_tuple T).atKS hg (hr.mono (by decide)) (kb_cell_tuple__1_size T) (takes_of rfl rfl rfl rfl)) rfl T.g_cell_tuple T.F_cell_tuple.kp (pa_cons (pv 0) pa_nil) (pk_cons (pv 1) pk_nil)) pa_nil))), ?_⟩
    try dsimp only [cxg, cxOf, Cx.nox, Cx.wish]
    wtm_at "v"
    refine ⟨p, Z, v, d, s, rfl, w, hd, t.mono (by decide) (by decide), fun ns e H1 tt r1 h1 hn => ?_, fun e H1 b r1 hb hbn => qn e H1 b r1 hb hbn⟩
    have w1 := w.up r1
    obtain ⟨m1, m2⟩ := cells_range e
    have hl : ns.length ≤ 1000 := cells_len e (fun ds h => tame_len t h)
    wtm_at "v"
    refine ⟨p, Z, .ref tt, tupI ns, ns, rfl, w1, dat_tup (w.ne hn) (.inl (.inl h1)) (datL_int ns), rfl, fun n hn => by have := m1 n hn; omega, hl, fun H2 r2 => ?_⟩
    exact qy ns e H2 (r1.trans r2)
def sp_is_odd_cells (K : PySem.W.Frag) (cl : Cl) : Sp := fun vs H Q _ => ∃ m, vs = [.int (m : Nat)] ∧ Q (.bl (oddN m)) H
theorem ok_is_odd_cells (T : Tx K mg cl) : FnG P w K mg base 1 T.a_is_odd_cells T.fd_is_odd_cells ["mask"] (sp_is_odd_cells K cl) := by
  refine FnG.ok T.F_is_odd_cells sc_is_odd_cells (fun vs H Q E h => ?_) (fun cdv A outer s H vs Q E hg hr h => ?_)
  · obtain ⟨_, rfl, _⟩ := h
    rfl
  · obtain ⟨m, rfl, q⟩ := h
    refine ⟨_, pss_cons ((by first | exact ps_par (i := 1) (j := 2) (by rfl) sc_is_odd_cells.nd rfl rfl (by decide) rfl rfl (pa_cons (pv 0) (pa_cons (pe_bl) pa_nil)) (by rfl) | exact ps_asg (pe_tup (pa_cons (pv 0) (pa_cons (pe_bl) pa_nil))) (pg_tupK (K := K) rfl rfl (pgs_cons (pg_name (i := 1) sc_is_odd_cells.nd rfl (by first | exact Or.inl rfl | exact Or.inr rfl)) (pgs_cons (pg_name (i := 2) sc_is_odd_cells.nd rfl (by first | exact Or.inl rfl | exact Or.inr rfl)) pgs_nil)))))
    (pss_cons (ps_while PassesOwn.never (pt_cmpR op_gt (pv 1) (pe_int) (nomark _))
      (pss_cons (ps_set (i := 1) sc_is_odd_cells.nd rfl (by first | exact Or.inl rfl | exact Or.inr rfl) (pe_op op_and (pv 1) (pe_op op_sub (pv 1) (pe_int))))
    (pss_one (ps_set (i := 2) sc_is_odd_cells.nd rfl (by first | exact Or.inl rfl | exact Or.inr rfl) (pe_not (pv 2))))))
    (pss_one (ps_ret (pv 2)))), ?_⟩
    try dsimp only [cxg, cxOf, Cx.nox, Cx.wish]
    wtm_at "v"
    refine ⟨fun k σ H' => H' = H ∧ ∃ (r : Nat) (b : Bool), pop r = k ∧ σ = [some (.int (m : Nat)), some (.int (r : Nat)), some (.bl b)] ∧ oddN m = (b != oddN r), ⟨_, rfl, m, false, rfl, rfl, by simp⟩, ?_⟩
    rintro k σ H1 ⟨rfl, r, b, rfl, rfl, e⟩
    wtm_at "v"
    refine ite_d (fun h => ?_) (fun h => ?_)
    · have r0 : 0 < r := by omega
      refine ⟨fun σ' H' => H' = H1 ∧ σ' = [some (.int (m : Nat)), some (.int ((r &&& (r - 1) : Nat) : Int)), some (.bl (!b))], ?_, ?_⟩
      · rintro σ' H' ⟨rfl, rfl⟩
        have l := pop_less r r0
        refine ⟨_, by omega, rfl, _, _, rfl, rfl, ?_⟩
        rw [e]
        have : oddN r = !oddN (r &&& (r - 1)) := by
          unfold oddN
          rw [← l]
          rcases Nat.mod_two_eq_zero_or_one (pop (r &&& (r - 1))) with c | c <;> simp [c, Nat.add_mod]
        rw [this]
        cases b <;> simp
      · wtm_at "v"
        have e1 : ((r : Int) - 1) = ((r - 1 : Nat) : Int) := by omega
        rw [e1, and_nn]
        wtm_at "v"
        exact ⟨rfl, rfl⟩
    · have r0 : r = 0 := by omega
      subst r0
      wtm_at "v"
      have e0 : oddN m = b := by rw [e]; cases b <;> simp [oddN, pop_zero]
      rw [← e0]
      exact q
def sp_Flip____init__ (K : PySem.W.Frag) (cl : Cl) : Sp := fun vs H Q E => ∃ p Z x dx v u d e H0, vs = [.ref x, v, u] ∧ H0 x = none ∧ H0 dx = none ∧ dx ≠ x ∧ H = upd (upd H0 dx (.own x)) x (.ins cl.Flip dx []) ∧ Wd p Z H0 ∧ Dat K Z H0 d v ∧ Dat K Z H0 e u ∧ Tame d 40 1000 ∧ Tame e 40 1000 ∧
  (∀ ts gs, cellsD d 40 = some ts → cellsD e 40 = some gs → (0 : Int) ∉ gs → oddN ((maskI ts).toNat &&& (maskI gs).toNat) = false →
    ∀ H', R p H0 H' → H' x = some (.ins cl.Flip dx [("test_mask", .int (maskI ts).toNat), ("toggle_mask", .int (maskI gs).toNat)]) → Q .non H') ∧
  (cellsD d 40 = none → ∀ H' b, R p H0 H' → H' b = some (.xd [("cells", v)]) → H0 b = none → E (.ref cl.NoCells) (some b) H') ∧
  (∀ ts, cellsD d 40 = some ts → cellsD e 40 = none → ∀ H' b, R p H0 H' → H' b = some (.xd [("cells", u)]) → H0 b = none → E (.ref cl.NoCells) (some b) H') ∧
  (∀ ts gs, cellsD d 40 = some ts → cellsD e 40 = some gs → (0 : Int) ∈ gs → ∀ H' b, R p H0 H' → H' b = some (.xd [("why", .str "fixed")]) → H0 b = none → E (.ref cl.NoFlip) (some b) H') ∧
  (∀ ts gs, cellsD d 40 = some ts → cellsD e 40 = some gs → (0 : Int) ∉ gs → oddN ((maskI ts).toNat &&& (maskI gs).toNat) = true →
    ∀ H' b, R p H0 H' → H' b = some (.xd [("why", .str "odd")]) → H0 b = none → E (.ref cl.NoFlip) (some b) H')
theorem ok_Flip____init__ (T : Tx K mg cl) : FnG P w K mg base 5 T.a_Flip____init__ T.fd_Flip____init__ ["self", "tested", "toggled"] (sp_Flip____init__ K cl) := by
  refine FnG.okX T.F_Flip____init__ sc_Flip____init__ (fun vs H Q E h => ?_) (fun cdv A outer s H vs Q E hg hr h => ?_)
  · obtain ⟨_, _, _, _, _, _, _, _, _, rfl, _, _, _, rfl, _, _, _, _, _, _, _, _, _, _⟩ := h
    rfl
  · obtain ⟨p, Z, x, dx, v, u, d, e, H0, rfl, hx, hdx, dne, rfl, w, hd, he, td, te, qy, q1, q2, q3, q4⟩ := h
    refine ⟨_, pss_cons (ps_fldK (K := K) rfl (pv 0) (pe_fnS ((ok_cell_mask T).atS hg (hr.mono (by decide)) (b_cell_mask T) .nil (takes_of rfl rfl rfl rfl)) rfl T.g_cell_mask T.F_cell_mask.kp (pa_cons (pv 1) (pa_cons (pe_glob (v := (.int 40)) rfl T.c_MOST_CELLS ⟨_, rfl⟩) pa_nil))))
    (pss_cons (ps_fldK (K := K) rfl (pv 0) (pe_fnS ((ok_cell_mask T).atS hg (hr.mono (by decide)) (b_cell_mask T) .nil (takes_of rfl rfl rfl rfl)) rfl T.g_cell_mask T.F_cell_mask.kp (pa_cons (pv 2) (pa_cons (pe_glob (v := (.int 40)) rfl T.c_MOST_CELLS ⟨_, rfl⟩) pa_nil))))
    (pss_cons (ps_if (pt_cmpR (kx_eq (K := K) rfl hr) (pe_op op_and (pe_fldK (K := K) rfl (pv 0)) (pe_int)) (pe_int) (nomark _)) (pss_one (ps_err (k := 0) rfl T.e_NoFlip er_rel1 (hr.mono (by decide)) (takes_of rfl rfl rfl rfl) (pa_cons (pe_str) pa_nil) rfl)) pss_nil)
    (pss_one (ps_if (pt_val (pe_fn ((ok_is_odd_cells T).at hg (hr.mono (by decide)) (b_is_odd_cells T) .nil passN) rfl T.g_is_odd_cells T.F_is_odd_cells.kp (pa_cons (pe_op op_and (pe_fldK (K := K) rfl (pv 0)) (pe_fldK (K := K) rfl (pv 0))) pa_nil))) (pss_one (ps_err (k := 0) rfl T.e_NoFlip er_rel1 (hr.mono (by decide)) (takes_of rfl rfl rfl rfl) (pa_cons (pe_str) pa_nil) rfl)) pss_nil)))), ?_⟩
    try dsimp only [cxg, cxOf, Cx.nox, Cx.wish]
    have xp : x ≠ p := w.neq hx
    have r0 : R p H0 (upd (upd H0 dx (.own x)) x (.ins cl.Flip dx [])) := (R.new hdx).over hx xp
    have x0 : (upd (upd H0 dx (.own x)) x (.ins cl.Flip dx [])) x = some (.ins cl.Flip dx []) := upd_same
    generalize upd (upd H0 dx (.own x)) x (.ins cl.Flip dx []) = H1 at r0 x0
    have w1 := w.up r0
    wtm_at "v"
    refine ⟨p, Z, v, d, 40, rfl, w1, by wtm_at "d", td, by decide, fun ts et H2 r2 => ?_, fun et H' b r hb hbn => q1 et H' b (r0.trans r) hb (w.old r0 hbn)⟩
    have x2 := r2.ins x0
    wtm_at "v"
    refine ⟨x, cl.Flip, dx, [], rfl, x2, T.cls_Flip, T.no_Flip_test_mask, by simp, ?_⟩
    rw [show putF "test_mask" (V.int (maskI ts)) [] = [(("test_mask" : Str), V.int (maskI ts))] from rfl]
    have r3 : R p H0 (upd H2 x (.ins cl.Flip dx [("test_mask", .int (maskI ts))])) := (r0.trans r2).over hx xp
    have x3 : (upd H2 x (.ins cl.Flip dx [("test_mask", .int (maskI ts))])) x = some (.ins cl.Flip dx [("test_mask", .int (maskI ts))]) := upd_same
    generalize upd H2 x (.ins cl.Flip dx [("test_mask", .int (maskI ts))]) = H3 at r3 x3
    have w3 := w.up r3
    clear r2 x2 x0 w1 r0
    wtm_at "v"
    refine ⟨p, Z, u, e, 40, rfl, w3, by wtm_at "d", te, by decide, fun gs eg H4 r4 => ?_, fun eg H' b r hb hbn => q2 ts et eg H' b (r3.trans r) hb (w.old r3 hbn)⟩
    have x4 := r4.ins x3
    wtm_at "v"
    refine ⟨x, cl.Flip, dx, _, rfl, x4, T.cls_Flip, T.no_Flip_toggle_mask, by simp, ?_⟩
    rw [show putF "toggle_mask" (V.int (maskI gs)) [("test_mask", V.int (maskI ts))] = [(("test_mask" : Str), V.int (maskI ts)), (("toggle_mask" : Str), V.int (maskI gs))] from rfl]
    have r5 : R p H0 (upd H4 x (.ins cl.Flip dx [("test_mask", .int (maskI ts)), ("toggle_mask", .int (maskI gs))])) := (r3.trans r4).over hx xp
    have x5 : (upd H4 x (.ins cl.Flip dx [("test_mask", .int (maskI ts)), ("toggle_mask", .int (maskI gs))])) x = some (.ins cl.Flip dx [("test_mask", .int (maskI ts)), ("toggle_mask", .int (maskI gs))]) := upd_same
    generalize upd H4 x (.ins cl.Flip dx [("test_mask", .int (maskI ts)), ("toggle_mask", .int (maskI gs))]) = H5 at r5 x5
    have w5 := w.up r5
    clear r4 x4 x3 w3 r3
    rw [maskN (ns := ts), maskN (ns := gs)] at x5
    wtm_at "v"
    refine ⟨x, cl.Flip, dx, _, _, rfl, x5, T.cls_Flip, T.no_Flip_toggle_mask, rfl, ?_⟩
    wtm_at "v"
    rw [bit_and1, mask_zero eg]
    refine ite_d (fun h0 => ?_) (fun h0 => ?_)
    · wtm_at "v"
      exact ⟨rfl, fun b hb => q3 ts gs et eg h0 _ b (r5.trans (R.new hb)) upd_same (w.old r5 hb)⟩
    · wtm_at "v"
      refine ⟨x, cl.Flip, dx, _, _, rfl, x5, T.cls_Flip, T.no_Flip_test_mask, rfl, ?_⟩
      wtm_at "v"
      refine ⟨x, cl.Flip, dx, _, _, rfl, x5, T.cls_Flip, T.no_Flip_toggle_mask, rfl, ?_⟩
      wtm_at "v"
      rw [and_nn]
      refine ⟨_, rfl, ?_⟩
      wtm_at "v"
      refine ite_b (fun h1 => ?_) (fun h1 => ?_)
      · wtm_at "v"
        exact ⟨rfl, fun b hb => q4 ts gs et eg h0 h1 _ b (r5.trans (R.new hb)) upd_same (w.old r5 hb)⟩
      · wtm_at "v"
        exact qy ts gs et eg h0 h1 H5 r5 x5
theorem flip_init_ok {p : Addr} {Z : List Addr} {H : Hp} {v u : V} {d e : PyData} {ts gs : List Int} {Q : VK} {E : XK} (w : Wd p Z H) (hd : Dat K Z H d v) (he : Dat K Z H e u) (td : Tame d 40 1000) (te : Tame e 40 1000)
    (et : cellsD d 40 = some ts) (eg : cellsD e 40 = some gs) (h0 : (0 : Int) ∉ gs) (h1 : oddN ((maskI ts).toNat &&& (maskI gs).toNat) = false)
    (q : ∀ H' v, R p H H' → FlipAt cl H' v (maskI ts).toNat (maskI gs).toNat → Q v H') :
    ∀ x dx, H x = none → H dx = none → dx ≠ x → sp_Flip____init__ K cl [.ref x, v, u] (upd (upd H dx (.own x)) x (.ins cl.Flip dx [])) (fun v H2 => v = .non ∧ Q (.ref x) H2) E := by
  intro x dx hx hdx dne
  refine ⟨p, Z, x, dx, v, u, d, e, H, rfl, hx, hdx, dne, rfl, w, hd, he, td, te, ?_, ?_, ?_, ?_, ?_⟩
  · intro ts' gs' a b _ _ H' r hx'
    rw [et] at a
    rw [eg] at b
    obtain rfl := Option.some.inj a
    obtain rfl := Option.some.inj b
    exact ⟨rfl, q H' _ r ⟨⟨x, dx, rfl, hx'⟩, mask_40 et, mask_40 eg, by rw [mask_zero eg, decide_eq_false h0], h1⟩⟩
  · intro a
    rw [et] at a
    cases a
  · intro _ _ b
    rw [eg] at b
    cases b
  · intro ts' gs' a b c
    rw [eg] at b
    obtain rfl := Option.some.inj b
    exact absurd c h0
  · intro ts' gs' a b c f
    rw [et] at a
    rw [eg] at b
    obtain rfl := Option.some.inj a
    obtain rfl := Option.some.inj b
    rw [h1] at f
    cases f
section
variable {p : Addr} {Z : List Addr} {H : Hp} {v u : V} {d e : PyData} {ts gs : List Int} {Q : VK} {W : WX} {σ : L2.St}
theorem mkF (w : Wd p Z H) (hd : Dat K Z H d v) (he : Dat K Z H e u) (td : Tame d 40 1000) (te : Tame e 40 1000)
    (et : cellsD d 40 = some ts) (eg : cellsD e 40 = some gs) (h0 : (0 : Int) ∉ gs) (h1 : oddN ((maskI ts).toNat &&& (maskI gs).toNat) = false)
    (q : ∀ H' v, R p H H' → FlipAt cl H' v (maskI ts).toNat (maskI gs).toNat → Q v H') :
    mkSp cl.Flip (sp_Flip____init__ K cl) [] W σ [v, u] H Q := flip_init_ok w hd he td te et eg h0 h1 q
theorem mkF_kw (w : Wd p Z H) (hd : Dat K Z H d v) (he : Dat K Z H e u) (td : Tame d 40 1000) (te : Tame e 40 1000)
    (et : cellsD d 40 = some ts) (eg : cellsD e 40 = some gs) (h0 : (0 : Int) ∉ gs) (h1 : oddN ((maskI ts).toNat &&& (maskI gs).toNat) = false)
    (q : ∀ H' v, R p H H' → FlipAt cl H' v (maskI ts).toNat (maskI gs).toNat → Q v H') :
    mkSpK cl.Flip (sp_Flip____init__ K cl) (kwg 1 2 [0, 2, 1]) W σ [] [u, v] H Q := flip_init_ok w hd he td te et eg h0 h1 q
end
def sp__law_flip_of (K : PySem.W.Frag) (cl : Cl) : Sp := fun vs H Q _ => ∃ p Z n ts gs u, vs = [u] ∧ Wd p Z H ∧ PairOk n ts gs ∧ n ≤ 40 ∧ Dat K Z H (pairD ts gs) u ∧ ∀ H' v, R p H H' → FlipAt cl H' v (maskI ts).toNat (maskI gs).toNat → Q v H'
theorem ok__law_flip_of (T : Tx K mg cl) : FnG P w K mg base 7 T.a__law_flip_of T.fd__law_flip_of ["_law_pair_here"] (sp__law_flip_of K cl) := by
  refine FnG.ok T.F__law_flip_of sc__law_flip_of (fun vs H Q E h => ?_) (fun cdv A outer s H vs Q E hg hr h => ?_)
  · obtain ⟨_, _, _, _, _, _, rfl, _, _, _, _, _⟩ := h
    rfl
  · obtain ⟨p, Z, n, ts, gs, u, rfl, w, ok, n40, hu, q⟩ := h
    refine ⟨_, pss_one (ps_ret (pe_fnS ((ok_Flip____init__ T).make T.mk_Flip hg (hr.mono (by decide)) (b_Flip____init__ T) .nil takes0) rfl T.gc_Flip T.mk_Flip.kp (pa_cons (pe_callTy (kx_list (K := K) rfl) (by rfl) T.z_list bt_list (pa_cons (pe_ix (kx_ix (K := K) rfl) (pv 0) (pe_int) (fun _ _ => rfl)) pa_nil)) (pa_cons (pe_callTy (kx_list (K := K) rfl) (by rfl) T.z_list bt_list (pa_cons (pe_ix (kx_ix (K := K) rfl) (pv 0) (pe_int) (fun _ _ => rfl)) pa_nil)) pa_nil)))), ?_⟩
    try dsimp only [cxg, cxOf, Cx.nox, Cx.wish]
    wtm_at "v"
    refine s_ixT (i := 0) hu rfl (fun v0 h0 => ?_)
    wtm_at "v"
    refine s_list_lst w h0 (fun H1 v1 r1 h1 => ?_)
    have w1 := w.up r1
    wtm_at "v"
    refine s_ixT (i := 1) (ds := [lstI ts, lstI gs]) (Dat.lift r1 w.mem hu) rfl (fun v2 h2 => ?_)
    wtm_at "v"
    refine s_list_lst w1 h2 (fun H3 v3 r3 h3 => ?_)
    have w3 := w1.up r3
    wtm_at "v"
    refine mkF w3 (d := lstI ts) (e := lstI gs) (by wtm_at "d") h3 ((ok.tt n40).mono (by decide) (by decide)) ((ok.tg n40).mono (by decide) (by decide)) (ok.ct n40).1 (ok.cg n40).1 ok.no0 (ok.even (by omega)) (fun H4 v4 r4 F4 => ?_)
    exact q H4 v4 (by wtm_at "r") F4
def sp__law_added (K : PySem.W.Frag) (cl : Cl) : Sp := fun vs H Q _ => ∃ p Z u v a b, vs = [u, v] ∧ Wd p Z H ∧ Dat K Z H (lstI a) u ∧ Dat K Z H (lstI b) v ∧ a.length ≤ 1000 ∧ b.length ≤ 1000 ∧ ∀ H' l, R p H H' → H l = none → H' l = some (.lst ((symD a b).map V.int)) → Q (.ref l) H'
theorem ok__law_added (T : Tx K mg cl) : FnG P w K mg base 1 T.a__law_added T.fd__law_added ["_law_some", "_law_more"] (sp__law_added K cl) := by
  refine FnG.ok T.F__law_added sc__law_added (fun vs H Q E h => ?_) (fun cdv A outer s H vs Q E hg hr h => ?_)
  · obtain ⟨_, _, _, _, _, _, rfl, _, _, _, _, _, _⟩ := h
    rfl
  · obtain ⟨p, Z, u, v, a, b, rfl, w, hu, hv, la, lb, q⟩ := h
    refine ⟨_, pss_one (ps_ret (pe_callB (kx_sorted (K := K) rfl) (by rfl) T.z_sorted bt_sorted (pa_cons (pe_op (kx_add (K := K) rfl) (pe_lc (own := [("_law_spot", 2)]) (g := gName 2)  rfl sc__law_added.nd (pi_seq (K := K) rfl (pv 0)) (blkOk_by (own := [("_law_spot", 2)]) (N := N__law_added) (sc := defScope st__law_added) (by decide +kernel)) (fun _ _ _ _ _ => pg_name (i := 2) sc__law_added.nd rfl (by first | exact Or.inl rfl | exact Or.inr rfl)) (fun _ _ _ _ _ => pts_one (pt_cmpR (kx_notIn (K := K) rfl) (pv 2) (pv 1) rfl)) (fun _ _ _ _ _ => pv 2)) (pe_lc (own := [("_law_spot", 2)]) (g := gName 2)  rfl sc__law_added.nd (pi_seq (K := K) rfl (pv 1)) (blkOk_by (own := [("_law_spot", 2)]) (N := N__law_added) (sc := defScope st__law_added) (by decide +kernel)) (fun _ _ _ _ _ => pg_name (i := 2) sc__law_added.nd rfl (by first | exact Or.inl rfl | exact Or.inr rfl)) (fun _ _ _ _ _ => pts_one (pt_cmpR (kx_notIn (K := K) rfl) (pv 2) (pv 0) rfl)) (fun _ _ _ _ _ => pv 2))) pa_nil))), ?_⟩
    try dsimp only [cxg, cxOf, Cx.nox, Cx.wish]
    wtm_at "v"
    refine s_iSeq (d := lstI a) rfl w hu rfl (fun J G xs wk hG dl => ?_)
    have ey := dl.ints
    subst ey
    refine s_lc_filt wk (by omega) w (fun t => !decide (t ∈ b)) hG (fun x => ⟨rfl, rfl⟩) ?_ ?_
    · intro D x H1 hD hx r1 w1 QT hQ
      wtm_at "v"
      refine s_notIn_ints (Z := D :: Z) (d := lstI b) (ns := b) (by wtm_at "d") rfl ?_
      wtm_at "v"
      exact hQ _ (R.refl _ _)
    · intro H1 a1 r1 ha1 h1
      have w1 := w.up r1
      have d1 : Dat K Z H1 (lstI (a.filter fun t => !decide (t ∈ b))) (.ref a1) := dat_lst (w.ne ha1) (.inl h1) (datL_int _)
      wtm_at "v"
      refine s_iSeq (d := lstI b) rfl w1 (by wtm_at "d") rfl (fun J G xs wk hG dl => ?_)
      have ey := dl.ints
      subst ey
      refine s_lc_filt wk (by omega) w1 (fun t => !decide (t ∈ a)) hG (fun x => ⟨rfl, rfl⟩) ?_ ?_
      · intro D x H2 hD hx r2 w2 QT hQ
        wtm_at "v"
        refine s_notIn_ints (Z := D :: Z) (d := lstI a) (ns := a) (by wtm_at "d") rfl ?_
        wtm_at "v"
        exact hQ _ (R.refl _ _)
      · intro H2 a2 r2 ha2 h2
        have w2 := w1.up r2
        have l1 := filter_len_le a fun t => !decide (t ∈ b)
        have l2 := filter_len_le b fun t => !decide (t ∈ a)
        refine s_add_lst w2 (Dat.lift r2 w1.mem d1) (dat_lst (ds := (b.filter fun t => !decide (t ∈ a)).map .int) (w1.ne ha2) (.inl h2) (datL_int _)) (by simp only [List.length_map]; exact sl_of (by omega)) (fun H3 v3 r3 h3 => ?_)
        rw [← List.map_append] at h3
        wtm_at "v"
        refine s_sorted_seq (w2.up r3) h3 rfl (fun H4 l ks r4 hl pk sk h4 => ?_)
        rw [symD_perm pk sk] at h4
        exact q H4 l (by wtm_at "r") (w.old (by wtm_at "r") hl) h4
def sp__law_past (K : PySem.W.Frag) (cl : Cl) : Sp := fun vs H Q _ => ∃ p Z n ts gs u s ss, vs = [s, u] ∧ Wd p Z H ∧ PairOk n ts gs ∧ n ≤ 40 ∧ Dat K Z H (pairD ts gs) u ∧ Dat K Z H (lstI ss) s ∧ (∀ x ∈ ss, 0 ≤ x ∧ x < n) ∧ ss.Pairwise (· < ·) ∧
  ∀ H' l, R p H H' → H l = none → H' l = some (.lst ((bitsL (pastM (maskI ss).toNat (maskI ts).toNat (maskI gs).toNat)).map V.int)) → Q (.ref l) H'
theorem ok__law_past (T : Tx K mg cl) : FnG P w K mg base 2 T.a__law_past T.fd__law_past ["_law_spots_here", "_law_pair_here"] (sp__law_past K cl) := by
  refine FnG.ok T.F__law_past sc__law_past (fun vs H Q E h => ?_) (fun cdv A outer s H vs Q E hg hr h => ?_)
  · obtain ⟨_, _, _, _, _, _, _, _, rfl, _, _, _, _, _, _, _, _⟩ := h
    rfl
  · obtain ⟨p, Z, n, ts, gs, u, s, ss, rfl, w, ok, n40, hu, hs, sr, sa, q⟩ := h
    refine ⟨_, pss_cons ((by first | exact ps_setLc (i := 2) (own := [("_law_spot", 3)]) (g := gName 3)  rfl sc__law_past.nd rfl rfl (sw_true rfl rfl rfl (by decide +kernel)) (pi_seq (K := K) rfl (pv 0)) (blkOk_by (own := [("_law_spot", 3)]) (N := N__law_past) (sc := defScope st__law_past) (by decide +kernel)) (fun _ _ _ _ _ => pg_name (i := 3) sc__law_past.nd rfl (by first | exact Or.inl rfl | exact Or.inr rfl)) (fun _ _ _ _ _ => pts_one (pt_cmpR (kx_in (K := K) rfl) (pv 3) (pe_ix (kx_ix (K := K) rfl) (pv 1) (pe_int) (fun _ _ => rfl)) rfl)) (fun _ _ _ _ _ => pv 3) | exact ps_set (i := 2) sc__law_past.nd rfl (by first | exact Or.inl rfl | exact Or.inr rfl) (pe_lc (own := [("_law_spot", 3)]) (g := gName 3)  rfl sc__law_past.nd (pi_seq (K := K) rfl (pv 0)) (blkOk_by (own := [("_law_spot", 3)]) (N := N__law_past) (sc := defScope st__law_past) (by decide +kernel)) (fun _ _ _ _ _ => pg_name (i := 3) sc__law_past.nd rfl (by first | exact Or.inl rfl | exact Or.inr rfl)) (fun _ _ _ _ _ => pts_one (pt_cmpR (kx_in (K := K) rfl) (pv 3) (pe_ix (kx_ix (K := K) rfl) (pv 1) (pe_int) (fun _ _ => rfl)) rfl)) (fun _ _ _ _ _ => pv 3))))
    (pss_one (ps_ret (pe_j (pe_ifExp (pt_cmpR (kx_eq (K := K) rfl hr) (pe_op op_modA (pe_callB (kx_len (K := K) rfl) (by rfl) T.z_len bt_len (pa_cons (pv 2) pa_nil)) (pe_int)) (pe_int) (nomark _)) (pe_fn ((ok__law_added T).at hg (hr.mono (by decide)) (b__law_added T) .nil passN) rfl T.g__law_added T.F__law_added.kp (pa_cons (pv 0) (pa_cons (pe_ix (kx_ix (K := K) rfl) (pv 1) (pe_int) (fun _ _ => rfl)) pa_nil))) (pe_callTy (kx_list (K := K) rfl) (by rfl) T.z_list bt_list (pa_cons (pv 0) pa_nil)))))), ?_⟩
    try dsimp only [cxg, cxOf, Cx.nox, Cx.wish]
    have ls := asc_len sr sa (by omega)
    have lt := ok.tl
    have nn : ss.Nodup := sa.imp fun h => by omega
    have eo := oddN_count (ns := ss) (ms := gs) (fun t h => by have := sr t h; omega) nn (fun t h => (ok.g0 t h).1) ok.gn
    wtm_at "v"
    refine s_iSeq (d := lstI ss) rfl w hs rfl (fun J G xs wk hG dl => ?_)
    have ey := dl.ints
    subst ey
    refine s_lc_filt wk (by omega) w (fun t => decide (t ∈ gs)) hG (fun x => ⟨rfl, rfl⟩) ?_ ?_
    · intro D x H1 hD hx r1 w1 QT hQ
      wtm_at "v"
      refine s_ixT (Z := Z) (i := 1) (ds := [lstI ts, lstI gs]) (d := lstI gs) (Dat.lift r1 w.mem hu) rfl (fun v2 h2 => ?_)
      refine s_in_ints h2 rfl ?_
      wtm_at "v"
      exact hQ _ (R.refl _ _)
    · intro H1 a1 r1 ha1 h1
      have w1 := w.up r1
      have d1 : Dat K Z H1 (lstI (ss.filter fun t => decide (t ∈ gs))) (.ref a1) := dat_lst (w.ne ha1) (.inl h1) (datL_int _)
      wtm_at "v"
      refine s_j (fun v H' => ∃ l, v = .ref l ∧ R p H1 H' ∧ H1 l = none ∧ H' l = some (.lst ((bitsL (pastM (maskI ss).toNat (maskI ts).toNat (maskI gs).toNat)).map V.int))) ?_ ?_
      · wtm_at "v"
        refine s_len_lst d1 ?_
        rw [List.length_map]
        wtm_at "v"
        refine ite_d (fun h => ?_) (fun h => ?_)
        · have od : oddN ((maskI ss).toNat &&& (maskI gs).toNat) = true := by rw [eo]; exact decide_eq_true (by omega)
          wtm_at "v"
          refine s_ixT (Z := Z) (i := 0) (ds := [lstI ts, lstI gs]) (d := lstI ts) (by wtm_at "d") rfl (fun v2 h2 => ?_)
          refine ⟨p, Z, s, v2, ss, ts, rfl, w1, by wtm_at "d", h2, by omega, by omega, fun H3 l r3 hl h3 => ?_⟩
          rw [symD_bits (fun t h => by have := sr t h; omega) nn (fun t h => by have := ok.tr t h; omega) ok.tn] at h3
          refine ⟨l, rfl, r3, hl, ?_⟩
          rw [pastM, if_pos od]
          exact h3
        · have od : oddN ((maskI ss).toNat &&& (maskI gs).toNat) = false := by rw [eo]; exact decide_eq_false (by omega)
          wtm_at "v"
          refine s_list_new (p := p) (Z := Z) (d := lstI ss) w1 (by wtm_at "d") rfl (fun H3 l r3 hl h3 => ?_)
          refine ⟨l, rfl, r3, hl, ?_⟩
          rw [pastM, if_neg (by rw [od]; decide), bits_self (fun t h => by have := sr t h; omega) sa]
          exact h3
      · rintro _ H2 ⟨l, rfl, r2, hl, h2⟩
        exact q H2 l (by wtm_at "r") (w.old r1 hl) h2
def sp__law_pair_past (K : PySem.W.Frag) (cl : Cl) : Sp := fun vs H Q _ => ∃ p Z n ts gs ts' gs' u u', vs = [u, u'] ∧ Wd p Z H ∧ PairOk n ts gs ∧ PairOk n ts' gs' ∧ n ≤ 40 ∧ Dat K Z H (pairD ts gs) u ∧ Dat K Z H (pairD ts' gs') u' ∧
  ∀ H' v, R p H H' → Dat K Z H' (pairD (bitsL (pastM (maskI ts).toNat (maskI ts').toNat (maskI gs').toNat)) (bitsL (pastM (maskI gs).toNat (maskI gs').toNat (maskI ts').toNat))) v → Q v H'
theorem ok__law_pair_past (T : Tx K mg cl) : FnG P w K mg base 3 T.a__law_pair_past T.fd__law_pair_past ["_law_pair_here", "_law_after_here"] (sp__law_pair_past K cl) := by
  refine FnG.ok T.F__law_pair_past sc__law_pair_past (fun vs H Q E h => ?_) (fun cdv A outer s H vs Q E hg hr h => ?_)
  · obtain ⟨_, _, _, _, _, _, _, _, _, rfl, _, _, _, _, _, _, _⟩ := h
    rfl
  · obtain ⟨p, Z, n, ts, gs, ts', gs', u, u', rfl, w, ok, ok', n40, hu, hu', q⟩ := h
    refine ⟨_, pss_cons ((by first | exact ps_setLc (i := 2) (own := [("_law_spot", 3)]) (g := gName 3)  rfl sc__law_pair_past.nd rfl rfl (sw_true rfl rfl rfl (by decide +kernel)) (pi_seq (K := K) rfl (pe_ix (kx_ix (K := K) rfl) (pv 0) (pe_int) (fun _ _ => rfl))) (blkOk_by (own := [("_law_spot", 3)]) (N := N__law_pair_past) (sc := defScope st__law_pair_past) (by decide +kernel)) (fun _ _ _ _ _ => pg_name (i := 3) sc__law_pair_past.nd rfl (by first | exact Or.inl rfl | exact Or.inr rfl)) (fun _ _ _ _ _ => pts_one (pt_cmpR (kx_in (K := K) rfl) (pv 3) (pe_ix (kx_ix (K := K) rfl) (pv 1) (pe_int) (fun _ _ => rfl)) rfl)) (fun _ _ _ _ _ => pv 3) | exact ps_set (i := 2) sc__law_pair_past.nd rfl (by first | exact Or.inl rfl | exact Or.inr rfl) (pe_lc (own := [("_law_spot", 3)]) (g := gName 3)  rfl sc__law_pair_past.nd (pi_seq (K := K) rfl (pe_ix (kx_ix (K := K) rfl) (pv 0) (pe_int) (fun _ _ => rfl))) (blkOk_by (own := [("_law_spot", 3)]) (N := N__law_pair_past) (sc := defScope st__law_pair_past) (by decide +kernel)) (fun _ _ _ _ _ => pg_name (i := 3) sc__law_pair_past.nd rfl (by first | exact Or.inl rfl | exact Or.inr rfl)) (fun _ _ _ _ _ => pts_one (pt_cmpR (kx_in (K := K) rfl) (pv 3) (pe_ix (kx_ix (K := K) rfl) (pv 1) (pe_int) (fun _ _ => rfl)) rfl)) (fun _ _ _ _ _ => pv 3))))
    (pss_cons (ps_set (i := 4) sc__law_pair_past.nd rfl (by first | exact Or.inl rfl | exact Or.inr rfl) (pe_j (pe_ifExp (pt_cmpR (kx_eq (K := K) rfl hr) (pe_op op_modA (pe_callB (kx_len (K := K) rfl) (by rfl) T.z_len bt_len (pa_cons (pv 2) pa_nil)) (pe_int)) (pe_int) (nomark _)) (pe_fn ((ok__law_added T).at hg (hr.mono (by decide)) (b__law_added T) .nil passN) rfl T.g__law_added T.F__law_added.kp (pa_cons (pe_ix (kx_ix (K := K) rfl) (pv 0) (pe_int) (fun _ _ => rfl)) (pa_cons (pe_ix (kx_ix (K := K) rfl) (pv 1) (pe_int) (fun _ _ => rfl)) pa_nil))) (pe_callTy (kx_list (K := K) rfl) (by rfl) T.z_list bt_list (pa_cons (pe_ix (kx_ix (K := K) rfl) (pv 0) (pe_int) (fun _ _ => rfl)) pa_nil)))))
    (pss_one (ps_ret (pe_tup (pa_cons (pe_fn ((ok__law_past T).at hg (hr.mono (by decide)) (b__law_past T) .nil passN) rfl T.g__law_past T.F__law_past.kp (pa_cons (pe_ix (kx_ix (K := K) rfl) (pv 0) (pe_int) (fun _ _ => rfl)) (pa_cons (pv 1) pa_nil))) (pa_cons (pv 4) pa_nil)))))), ?_⟩
    try dsimp only [cxg, cxOf, Cx.nox, Cx.wish]
    have lt := ok.tl
    have lg := ok.gl
    have lg' := ok'.gl
    have eo := oddN_count (ns := gs) (ms := ts') (fun t h => by have := ok.gr t h; omega) ok.gn (fun t h => (ok'.tr t h).1) ok'.tn
    wtm_at "v"
    refine .inl ?_
    wtm_at "v"
    refine s_ixT (Z := Z) (i := 1) (ds := [lstI ts, lstI gs]) (d := lstI gs) hu rfl (fun v0 h0 => ?_)
    refine s_iLC (ds := gs.map .int) w h0 (fun J G xs wk hG dl => ?_)
    have ey := dl.ints
    subst ey
    refine s_lc_filt wk (by omega) w (fun t => decide (t ∈ ts')) hG (fun x => ⟨rfl, rfl⟩) ?_ ?_
    · intro D x H1 hD hx r1 w1 QT hQ
      wtm_at "v"
      refine s_ixT (Z := Z) (i := 0) (ds := [lstI ts', lstI gs']) (d := lstI ts') (Dat.lift r1 w.mem hu') rfl (fun v2 h2 => ?_)
      refine s_in_ints h2 rfl ?_
      wtm_at "v"
      exact hQ _ (R.refl _ _)
    · intro H1 a1 r1 ha1 h1
      have w1 := w.up r1
      have d1 : Dat K Z H1 (lstI (gs.filter fun t => decide (t ∈ ts'))) (.ref a1) := dat_lst (w.ne ha1) (.inl h1) (datL_int _)
      wtm_at "v"
      refine s_j (fun v H' => Dat K Z H' (lstI (bitsL (pastM (maskI gs).toNat (maskI gs').toNat (maskI ts').toNat))) v ∧ R p H1 H') ?_ ?_
      · wtm_at "v"
        refine s_len_lst d1 ?_
        rw [List.length_map]
        wtm_at "v"
        refine ite_d (fun h => ?_) (fun h => ?_)
        · have od : oddN ((maskI gs).toNat &&& (maskI ts').toNat) = true := by rw [eo]; exact decide_eq_true (by omega)
          wtm_at "v"
          refine s_ixT (Z := Z) (i := 1) (ds := [lstI ts, lstI gs]) (d := lstI gs) (by wtm_at "d") rfl (fun v2 h2 => ?_)
          wtm_at "v"
          refine s_ixT (Z := Z) (i := 1) (ds := [lstI ts', lstI gs']) (d := lstI gs') (by wtm_at "d") rfl (fun v3 h3 => ?_)
          refine ⟨p, Z, v2, v3, gs, gs', rfl, w1, h2, h3, by omega, by omega, fun H3 l r3 hl h4 => ?_⟩
          rw [symD_bits (fun t h => by have := ok.gr t h; omega) ok.gn (fun t h => by have := ok'.gr t h; omega) ok'.gn] at h4
          rw [pastM, if_pos od]
          exact ⟨dat_lst (w1.ne hl) (.inl h4) (datL_int _), r3⟩
        · have od : oddN ((maskI gs).toNat &&& (maskI ts').toNat) = false := by rw [eo]; exact decide_eq_false (by omega)
          wtm_at "v"
          refine s_ixT (Z := Z) (i := 1) (ds := [lstI ts, lstI gs]) (d := lstI gs) (by wtm_at "d") rfl (fun v2 h2 => ?_)
          wtm_at "v"
          refine s_list_lst (p := p) (Z := Z) (ds := gs.map .int) w1 h2 (fun H3 l r3 h3 => ?_)
          rw [pastM, if_neg (by rw [od]; decide), bits_self (fun t h => by have := ok.gr t h; omega) ok.ga]
          exact ⟨h3, r3⟩
      · rintro v3 H3 ⟨h3, r3⟩
        have w3 := w1.up r3
        wtm_at "v"
        refine s_ixT (Z := Z) (i := 0) (ds := [lstI ts, lstI gs]) (d := lstI ts) (by wtm_at "d") rfl (fun v4 h4 => ?_)
        wtm_at "v"
        refine ⟨p, Z, n, ts', gs', u', v4, ts, rfl, w3, ok', n40, by wtm_at "d", h4, ok.tr, ok.ta, fun H5 l5 r5 hl5 h5 => ?_⟩
        have w5 := w3.up r5
        have d5 : Dat K Z H5 (lstI (bitsL (pastM (maskI ts).toNat (maskI ts').toNat (maskI gs').toNat))) (.ref l5) := dat_lst (w3.ne hl5) (.inl h5) (datL_int _)
        wtm_at "v"
        refine s_newt K w5 (datL_cons d5 (datL_cons (by wtm_at "d") datL_nil)) (by simp) (fun H6 v6 r6 h6 => ?_)
        exact q H6 v6 (by wtm_at "r") h6
def sp_cells_in_cells (K : PySem.W.Frag) (cl : Cl) : Sp := fun vs H Q _ => ∃ p Z m, vs = [.int (m : Nat)] ∧ Wd p Z H ∧ m < 2 ^ 64 ∧ ∀ H' t, R p H H' → H' t = some (.tup ((bitsL m).map V.int)) → H t = none → Q (.ref t) H'
theorem ok_cells_in_cells (T : Tx K mg cl) : FnG P w K mg base 1 T.a_cells_in_cells T.fd_cells_in_cells ["mask"] (sp_cells_in_cells K cl) := by
  refine FnG.ok T.F_cells_in_cells sc_cells_in_cells (fun vs H Q E h => ?_) (fun cdv A outer s H vs Q E hg hr h => ?_)
  · obtain ⟨_, _, _, rfl, _, _, _⟩ := h
    rfl
  · obtain ⟨p, Z, m, rfl, w, hm, q⟩ := h
    refine ⟨_, pss_one (ps_ret (pe_callTy (kx_tuple (K := K) rfl) (by rfl) T.z_tuple bt_tuple (pa_cons (pe_lc (own := [("cell", 1)]) (g := gName 1)  rfl sc_cells_in_cells.nd (pi_range1 rfl T.z_range (pa_cons (pe_bits (pv 0)) pa_nil)) (blkOk_by (own := [("cell", 1)]) (N := N_cells_in_cells) (sc := defScope st_cells_in_cells) (by decide +kernel)) (fun _ _ _ _ _ => pg_name (i := 1) sc_cells_in_cells.nd rfl (by first | exact Or.inl rfl | exact Or.inr rfl)) (fun _ _ _ _ _ => pts_one (pt_cmpR (kx_eq (K := K) rfl hr) (pe_op op_and (pe_op op_shr (pv 0) (pv 1)) (pe_int)) (pe_int) (nomark _))) (fun _ _ _ _ _ => pv 1)) pa_nil))), ?_⟩
    try dsimp only [cxg, cxOf, Cx.nox, Cx.wish]
    have hb := bits_fit hm
    wtm_at "v"
    refine ⟨by omega, by omega, ?_⟩
    refine s_lc_ints walk_r0 (sl_lt (by simp; omega)) w (fun i ns => ns = ((List.range i).filter fun i => m.testBit i).map fun i => ((i : Nat) : Int)) rfl (fun _ _ => trivial) ?_ ?_
    · rintro D i x H2 H3 ns hD hi rfl r w' ⟨rfl, rfl⟩ F N hF hN
      have hi' : i < 64 := by simp at hi; omega
      wtm_at "v"
      refine ⟨rfl, ?_⟩
      wtm_at "v"
      have e : decide (Builtin.bitAnd ((m : Int) / 2 ^ (i : Int).toNat) 1 = 1) = m.testBit i := by
        rw [Int.toNat_natCast]
        exact bit_at m i
      refine s_rI (Int.natCast_nonneg _) ?_
      wtm_at "v"
      have e0 : ((List.range (i + 1)).filter fun i => m.testBit i) = ((List.range i).filter fun i => m.testBit i) ++ (if m.testBit i = true then [i] else []) := by
        rw [List.range_succ, List.filter_append]
        by_cases c : m.testBit i = true <;> simp [c]
      rw [e]
      refine ite_b (fun h => ?_) (fun h => ?_)
      · wtm_at "v"
        refine hF _ _ (R.refl _ _) ?_
        rw [e0, if_pos h, List.map_append]
        simp
      · refine hN _ (R.refl _ _) ?_
        rw [e0, if_neg (by rw [h]; decide), List.append_nil]
    · rintro H2 a ns r2 ha hn rfl hle
      have w2 := w.up r2
      have ap : a ≠ p := fun z => w.occ p w.mem (z ▸ ha)
      have eb : ((List.range (Builtin.Int.intBits (m : Int) : Int).toNat).filter fun i => m.testBit i).map (fun i => ((i : Nat) : Int)) = bitsL m := by
        rw [Int.toNat_natCast, bitsL, filter_bits (bits_over (m := m)) hb]
      rw [eb] at hn
      wtm_at "v"
      refine ⟨a, _, rfl, .inl ⟨.inl (.inl hn), fun t ht => ?_⟩⟩
      exact q _ t (r2.trans (R.new ht)) upd_same (R.free r2 (fun z => w2.occ p w2.mem (z ▸ ht)) ht)
def sp_Flip__toggled (K : PySem.W.Frag) (cl : Cl) : Sp := fun vs H Q _ => ∃ p Z v t g, vs = [v] ∧ Wd p Z H ∧ FlipAt cl H v t g ∧ ∀ H' a, R p H H' → H' a = some (.tup ((bitsL g).map V.int)) → H a = none → Q (.ref a) H'
theorem ok_Flip__toggled (T : Tx K mg cl) : FnG P w K mg base 2 T.a_Flip__toggled T.fd_Flip__toggled ["self"] (sp_Flip__toggled K cl) := by
  refine FnG.ok T.F_Flip__toggled sc_Flip__toggled (fun vs H Q E h => ?_) (fun cdv A outer s H vs Q E hg hr h => ?_)
  · obtain ⟨_, _, _, _, _, rfl, _, _, _⟩ := h
    rfl
  · obtain ⟨p, Z, v, t, g, rfl, w, F, q⟩ := h
    refine ⟨_, pss_one (ps_ret (pe_fn ((ok_cells_in_cells T).at hg (hr.mono (by decide)) (b_cells_in_cells T) .nil passN) rfl T.g_cells_in_cells T.F_cells_in_cells.kp (pa_cons (pe_fldK (K := K) rfl (pv 0)) pa_nil))), ?_⟩
    try dsimp only [cxg, cxOf, Cx.nox, Cx.wish]
    obtain ⟨a, dx, rfl, e⟩ := F.ex
    wtm_at "v"
    wtm_at "fl"
    wtm_at "v"
    exact ⟨p, Z, g, rfl, w, Nat.lt_of_lt_of_le F.ok.lg (by decide), q⟩
def sp_Flip__tested (K : PySem.W.Frag) (cl : Cl) : Sp := fun vs H Q _ => ∃ p Z v t g, vs = [v] ∧ Wd p Z H ∧ FlipAt cl H v t g ∧ ∀ H' a, R p H H' → H' a = some (.tup ((bitsL t).map V.int)) → H a = none → Q (.ref a) H'
theorem ok_Flip__tested (T : Tx K mg cl) : FnG P w K mg base 2 T.a_Flip__tested T.fd_Flip__tested ["self"] (sp_Flip__tested K cl) := by
  refine FnG.ok T.F_Flip__tested sc_Flip__tested (fun vs H Q E h => ?_) (fun cdv A outer s H vs Q E hg hr h => ?_)
  · obtain ⟨_, _, _, _, _, rfl, _, _, _⟩ := h
    rfl
  · obtain ⟨p, Z, v, t, g, rfl, w, F, q⟩ := h
    refine ⟨_, pss_one (ps_ret (pe_fn ((ok_cells_in_cells T).at hg (hr.mono (by decide)) (b_cells_in_cells T) .nil passN) rfl T.g_cells_in_cells T.F_cells_in_cells.kp (pa_cons (pe_fldK (K := K) rfl (pv 0)) pa_nil))), ?_⟩
    try dsimp only [cxg, cxOf, Cx.nox, Cx.wish]
    obtain ⟨a, dx, rfl, e⟩ := F.ex
    wtm_at "v"
    wtm_at "fl"
    wtm_at "v"
    exact ⟨p, Z, t, rfl, w, Nat.lt_of_lt_of_le F.ok.lt (by decide), q⟩
def sp_Flip____repr__ (K : PySem.W.Frag) (cl : Cl) : Sp := fun vs H Q _ => ∃ p Z v t g, vs = [v] ∧ Wd p Z H ∧ FlipAt cl H v t g ∧ ∀ H', R p H H' → Q (.str (pairRepr (bitsL t) (bitsL g))) H'
theorem ok_Flip____repr__ (T : Tx K mg cl) : FnG P w K mg base 3 T.a_Flip____repr__ T.fd_Flip____repr__ ["self"] (sp_Flip____repr__ K cl) := by
  refine FnG.ok T.F_Flip____repr__ sc_Flip____repr__ (fun vs H Q E h => ?_) (fun cdv A outer s H vs Q E hg hr h => ?_)
  · obtain ⟨_, _, _, _, _, rfl, _, _, _⟩ := h
    rfl
  · obtain ⟨p, Z, v, t, g, rfl, w, F, q⟩ := h
    refine ⟨_, pss_one (ps_ret (pe_joined (.cons (pe_str) (.cons (pe_fmtRD (K := K) rfl hg hr (pe_callTy (kx_list (K := K) rfl) (by rfl) T.z_list bt_list (pa_cons (pe_mS0 (CallR.S ((ok_Flip__tested T).at hg (hr.mono (by decide)) (b_Flip__tested T) .nil passN)) T.cls_Flip T.m_Flip__tested (pv 0)) pa_nil))) (.cons (pe_str) (.cons (pe_fmtRD (K := K) rfl hg hr (pe_callTy (kx_list (K := K) rfl) (by rfl) T.z_list bt_list (pa_cons (pe_mS0 (CallR.S ((ok_Flip__toggled T).at hg (hr.mono (by decide)) (b_Flip__toggled T) .nil passN)) T.cls_Flip T.m_Flip__toggled (pv 0)) pa_nil))) (.cons (pe_str) .nil))))))), ?_⟩
    try dsimp only [cxg, cxOf, Cx.nox, Cx.wish]
    obtain ⟨a, dx, rfl, e⟩ := F.ex
    have l1 : (PyData.list ((bitsL t).map PyData.int)).shown.length ≤ (64 + 1) * 302 := shown_len (bits_small (m := t)) (bits_len t)
    have l2 : (PyData.list ((bitsL g).map PyData.int)).shown.length ≤ (64 + 1) * 302 := shown_len (bits_small (m := g)) (bits_len g)
    have e1 : ("Flip(tested=" : Str).length = 12 := by decide +kernel
    have e2 : (", toggled=" : Str).length = 10 := by decide +kernel
    have e3 : (")" : Str).length = 1 := by decide +kernel
    wtm_at "v"
    refine ⟨_, rfl, by rw [empty_app, sizeLine_eq]; omega, ?_⟩
    refine s_fmtRD ?_
    wtm_at "v"
    wtm_at "me"
    refine ⟨p, Z, _, t, g, rfl, w, F, fun H1 a1 r1 h1 ha1 => ?_⟩
    have w1 := w.up r1
    wtm_at "v"
    refine s_list_seq (p := p) (Z := Z) (d := tupI (bitsL t)) w1 (dat_tup (w.ne ha1) (.inl (.inl h1)) (datL_int _)) rfl (fun H2 v2 r2 h2 => ?_)
    have w2 := w1.up r2
    refine ⟨Z, _, w2.one, (let ⟨a, _, e, _⟩ := h2.lst; ⟨a, e⟩), h2, (tame_lstI bits_small (bits_len t)).mono (by decide) (by decide), _, rfl, by rw [empty_app, len_app, sizeLine_eq]; omega, ?_⟩
    wtm_at "v"
    refine ⟨_, rfl, by rw [empty_app, len_app, len_app, sizeLine_eq]; omega, ?_⟩
    refine s_fmtRD ?_
    wtm_at "v"
    wtm_at "me"
    refine ⟨p, Z, _, t, g, rfl, w2, by wtm_at "f", fun H3 a3 r3 h3 ha3 => ?_⟩
    have w3 := w2.up r3
    wtm_at "v"
    refine s_list_seq (p := p) (Z := Z) (d := tupI (bitsL g)) w3 (dat_tup (w2.ne ha3) (.inl (.inl h3)) (datL_int _)) rfl (fun H4 v4 r4 h4 => ?_)
    have w4 := w3.up r4
    refine ⟨Z, _, w4.one, (let ⟨a, _, e, _⟩ := h4.lst; ⟨a, e⟩), h4, (tame_lstI bits_small (bits_len g)).mono (by decide) (by decide), _, rfl, by rw [empty_app, len_app, len_app, len_app, sizeLine_eq]; omega, ?_⟩
    wtm_at "v"
    refine ⟨_, rfl, by rw [empty_app, len_app, len_app, len_app, len_app, sizeLine_eq]; omega, ?_⟩
    rw [empty_app]
    exact q _ (by wtm_at "r")
def sp_mask_text (K : PySem.W.Frag) (cl : Cl) : Sp := fun vs H Q _ => ∃ p Z m, vs = [.int (m : Nat)] ∧ Wd p Z H ∧ m < 2 ^ 64 ∧ ∀ H', R p H H' → Q (.str (textL (bitsL m))) H'
theorem ok_mask_text (T : Tx K mg cl) : FnG P w K mg base 2 T.a_mask_text T.fd_mask_text ["mask"] (sp_mask_text K cl) := by
  refine FnG.ok T.F_mask_text sc_mask_text (fun vs H Q E h => ?_) (fun cdv A outer s H vs Q E hg hr h => ?_)
  · obtain ⟨_, _, _, rfl, _, _, _⟩ := h
    rfl
  · obtain ⟨p, Z, m, rfl, w, hm, q⟩ := h
    refine ⟨_, pss_cons (ps_if (pt_cmpR (kx_eq (K := K) rfl hr) (pv 0) (pe_int) (nomark _)) (pss_one (ps_ret (pe_str))) pss_nil)
    (pss_one (ps_ret (pe_joinK (K := K) rfl (pe_str) (pe_lc (own := [("cell", 1)]) (g := gName 1) (tt := tYes)  rfl sc_mask_text.nd (pi_seq (K := K) rfl (pe_fn ((ok_cells_in_cells T).at hg (hr.mono (by decide)) (b_cells_in_cells T) .nil passN) rfl T.g_cells_in_cells T.F_cells_in_cells.kp (pa_cons (pv 0) pa_nil))) (blkOk_by (own := [("cell", 1)]) (N := N_mask_text) (sc := defScope st_mask_text) (by decide +kernel)) (fun _ _ _ _ _ => pg_name (i := 1) sc_mask_text.nd rfl (by first | exact Or.inl rfl | exact Or.inr rfl)) (fun _ _ _ _ _ => pts_nil) (fun _ _ _ _ _ => pe_callTy call_str_int (by rfl) T.z_str bt_str (pa_cons (pv 1) pa_nil)))))), ?_⟩
    try dsimp only [cxg, cxOf, Cx.nox, Cx.wish]
    have bl := bits_len m
    have z : bitsL m = [] ↔ m = 0 := by
      constructor
      · intro h
        have := mask_bits hm
        rw [h] at this
        exact this.symm
      · rintro rfl
        rfl
    wtm_at "v"
    refine ite_d (fun h => ?_) (fun h => ?_)
    · wtm_at "v"
      have e : textL (bitsL m) = "-" := by unfold textL; rw [if_pos (z.mpr (by omega))]
      rw [e] at q
      exact q _ (R.refl _ _)
    · wtm_at "v"
      refine .inr ?_
      wtm_at "v"
      refine ⟨p, Z, m, rfl, w, hm, fun H1 t r1 h1 ht => ?_⟩
      have w1 := w.up r1
      have d1 : Dat K Z H1 (tupI (bitsL m)) (.ref t) := dat_tup (w.ne ht) (.inl (.inl h1)) (datL_int _)
      wtm_at "v"
      refine s_iTC (ds := (bitsL m).map .int) w1 d1 (fun J G xs wk hG dl => ?_)
      have ey := dl.ints
      subst ey
      refine s_lc_map (K := K) wk (sl_lt (by simp; omega)) w1 (fun i => .str (toString ((bitsL m).getD i 0))) hG ?_ ?_
      · rintro D i x H2 H3 hD nz hi r w' ⟨rfl, hx⟩ F hF
        have hi' : i < (bitsL m).length := by simpa using hi
        rw [List.getElem?_map, List.getElem?_eq_getElem hi'] at hx
        obtain rfl := Option.some.inj hx
        have sm := bits_small (m := m) _ (List.getElem_mem hi')
        wtm_at "v"
        refine ⟨rfl, ?_⟩
        wtm_at "v"
        refine ⟨Nat.lt_trans (log2_small (by decide) sm) (by decide), ?_⟩
        refine hF _ _ (R.refl _ _) ?_
        rw [List.getD_eq_getElem?_getD, List.getElem?_eq_getElem hi']
        exact dat_str
      · intro H2 v2 r2 hv2
        have e2 : (List.range ((bitsL m).map V.int).length).map (fun i => PyData.str (toString ((bitsL m).getD i 0))) = ((bitsL m).map fun n => (toString n : Str)).map .str := by
          refine List.ext_getElem (by simp) fun i h1 h2 => ?_
          have hi' : i < (bitsL m).length := by simpa using h2
          simp [List.getD_eq_getElem?_getD, List.getElem?_eq_getElem hi']
        first | rw [e2] at hv2 | (rw [List.length_map] at hv2 e2; rw [e2] at hv2)
        have e : textL (bitsL m) = Txt.join "," ((bitsL m).map fun n => (toString n : Str)) := by unfold textL; rw [if_neg (fun k => h (by have := z.mp k; omega))]
        refine s_join hv2 ?_ ?_
        · have := ints_sum (bits_small (m := m))
          have e1 : ("," : Str).length = 1 := by decide +kernel
          rw [e1, List.length_map]
          omega
        · rw [e] at q
          exact q _ (by wtm_at "r")
def sp_Flip____str__ (K : PySem.W.Frag) (cl : Cl) : Sp := fun vs H Q _ => ∃ p Z v t g, vs = [v] ∧ Wd p Z H ∧ FlipAt cl H v t g ∧ ∀ H', R p H H' → Q (.str (pairText (bitsL t) (bitsL g))) H'
theorem ok_Flip____str__ (T : Tx K mg cl) : FnG P w K mg base 3 T.a_Flip____str__ T.fd_Flip____str__ ["self"] (sp_Flip____str__ K cl) := by
  refine FnG.ok T.F_Flip____str__ sc_Flip____str__ (fun vs H Q E h => ?_) (fun cdv A outer s H vs Q E hg hr h => ?_)
  · obtain ⟨_, _, _, _, _, rfl, _, _, _⟩ := h
    rfl
  · obtain ⟨p, Z, v, t, g, rfl, w, F, q⟩ := h
    refine ⟨_, pss_one (ps_ret (pe_joined (.cons (pe_fmt (pe_fn ((ok_mask_text T).at hg (hr.mono (by decide)) (b_mask_text T) .nil passN) rfl T.g_mask_text T.F_mask_text.kp (pa_cons (pe_fldK (K := K) rfl (pv 0)) pa_nil))) (.cons (pe_str) (.cons (pe_fmt (pe_fn ((ok_mask_text T).at hg (hr.mono (by decide)) (b_mask_text T) .nil passN) rfl T.g_mask_text T.F_mask_text.kp (pa_cons (pe_fldK (K := K) rfl (pv 0)) pa_nil))) .nil))))), ?_⟩
    try dsimp only [cxg, cxOf, Cx.nox, Cx.wish]
    obtain ⟨a, dx, rfl, e⟩ := F.ex
    have lt : t < 2 ^ 64 := Nat.lt_of_lt_of_le F.ok.lt (by decide)
    have lg : g < 2 ^ 64 := Nat.lt_of_lt_of_le F.ok.lg (by decide)
    have l1 := textL_len (bits_small (m := t)) (bits_len t)
    have l2 := textL_len (bits_small (m := g)) (bits_len g)
    have e1 : (">" : Str).length = 1 := by decide +kernel
    wtm_at "v"
    refine s_fmt ?_
    wtm_at "v"
    wtm_at "fl"
    wtm_at "v"
    refine ⟨p, Z, t, rfl, w, lt, fun H1 r1 => .inl ⟨_, rfl, by rw [sizeLine_eq]; omega, _, rfl, by rw [empty_app, sizeLine_eq]; omega, ?_⟩⟩
    wtm_at "v"
    refine ⟨_, rfl, by rw [empty_app, len_app, sizeLine_eq]; omega, ?_⟩
    wtm_at "v"
    refine s_fmt ?_
    wtm_at "v"
    wtm_at "fl"
    wtm_at "v"
    refine ⟨p, Z, g, rfl, w.up r1, lg, fun H2 r2 => .inl ⟨_, rfl, by rw [sizeLine_eq]; omega, _, rfl, by rw [empty_app, len_app, len_app, sizeLine_eq]; omega, ?_⟩⟩
    rw [empty_app]
    exact q _ (by wtm_at "r")
def sp__law_text_of (K : PySem.W.Frag) (cl : Cl) : Sp := fun vs H Q _ => ∃ p Z a ns, vs = [a] ∧ Wd p Z H ∧ Dat K Z H (lstI ns) a ∧ ns.length ≤ 64 ∧ (∀ n ∈ ns, n.natAbs < 2 ^ 250) ∧ ∀ H', R p H H' → Q (.str (textL ns)) H'
theorem ok__law_text_of (T : Tx K mg cl) : FnG P w K mg base 1 T.a__law_text_of T.fd__law_text_of ["_law_spots_here"] (sp__law_text_of K cl) := by
  refine FnG.ok T.F__law_text_of sc__law_text_of (fun vs H Q E h => ?_) (fun cdv A outer s H vs Q E hg hr h => ?_)
  · obtain ⟨_, _, _, _, rfl, _, _, _, _, _⟩ := h
    rfl
  · obtain ⟨p, Z, a, ns, rfl, w, ha, hl, sm, q⟩ := h
    refine ⟨_, pss_one (ps_ret (pe_ifExp (pt_cmpR (kx_ne (K := K) rfl hr) (pv 0) (pe_lst (pa_nil)) (nomark _)) (pe_joinK (K := K) rfl (pe_str) (pe_lc (own := [("_law_spot", 1)]) (g := gName 1) (tt := tYes)  rfl sc__law_text_of.nd (pi_seq (K := K) rfl (pv 0)) (blkOk_by (own := [("_law_spot", 1)]) (N := N__law_text_of) (sc := defScope st__law_text_of) (by decide +kernel)) (fun _ _ _ _ _ => pg_name (i := 1) sc__law_text_of.nd rfl (by first | exact Or.inl rfl | exact Or.inr rfl)) (fun _ _ _ _ _ => pts_nil) (fun _ _ _ _ _ => pe_callTy call_str_int (by rfl) T.z_str bt_str (pa_cons (pv 1) pa_nil)))) (pe_str))), ?_⟩
    try dsimp only [cxg, cxOf, Cx.nox, Cx.wish]
    have tn := tame_lstI sm hl
    wtm_at "v"
    refine s_newl K w datL_nil (by simp) (fun H1 v1 r1 h1 => ?_)
    have w1 := w.up r1
    refine s_ne_dat (Z := Z) (d := lstI ns) (e := .list []) w1.one (by wtm_at "d") h1 (tn.shaped (by decide) (nodict_ints ns)) (by decide) ?_
    have en : (!PyData.eqv (lstI ns) (.list [])) = decide (ns ≠ []) := by
      cases ns with
      | nil => rfl
      | cons n ns => rfl
    rw [en]
    wtm_at "v"
    refine ite_d (fun h => ?_) (fun h => ?_)
    · wtm_at "v"
      refine s_iSeq (d := lstI ns) rfl w1 (by wtm_at "d") rfl (fun J G xs wk hG dl => ?_)
      have ey := dl.ints
      subst ey
      refine s_lc_map (K := K) wk (sl_lt (by simp; omega)) w1 (fun i => .str (toString (ns.getD i 0))) hG ?_ ?_
      · rintro D i x H2 H3 hD nz hi r w' ⟨rfl, hx⟩ F hF
        have hi' : i < ns.length := by simpa using hi
        rw [List.getElem?_map, List.getElem?_eq_getElem hi'] at hx
        obtain rfl := Option.some.inj hx
        have sm := sm _ (List.getElem_mem hi')
        wtm_at "v"
        refine ⟨rfl, ?_⟩
        wtm_at "v"
        refine ⟨Nat.lt_trans (log2_small (by decide) sm) (by decide), ?_⟩
        refine hF _ _ (R.refl _ _) ?_
        rw [List.getD_eq_getElem?_getD, List.getElem?_eq_getElem hi']
        exact dat_str
      · intro H2 v2 r2 hv2
        rw [List.length_map] at hv2
        have e2 : (List.range ns.length).map (fun i => PyData.str (toString (ns.getD i 0))) = (ns.map fun n => (toString n : Str)).map .str := by
          refine List.ext_getElem (by simp) fun i h1 h2 => ?_
          have hi' : i < ns.length := by simpa using h2
          simp [List.getD_eq_getElem?_getD, List.getElem?_eq_getElem hi']
        rw [e2] at hv2
        have e : textL ns = Txt.join "," (ns.map fun n => (toString n : Str)) := by unfold textL; rw [if_neg h]
        refine s_join hv2 ?_ ?_
        · have := ints_sum sm
          have e1 : ("," : Str).length = 1 := by decide +kernel
          rw [e1, List.length_map]
          omega
        · rw [e] at q
          exact q _ (by wtm_at "r")
    · wtm_at "v"
      have e : textL ns = "-" := by unfold textL; rw [if_pos (Classical.not_not.mp h)]
      rw [e] at q
      exact q _ r1
def sp__law_pair_text (K : PySem.W.Frag) (cl : Cl) : Sp := fun vs H Q _ => ∃ p Z u ts gs, vs = [u] ∧ Wd p Z H ∧ Dat K Z H (pairD ts gs) u ∧ ts.length ≤ 64 ∧ gs.length ≤ 64 ∧ (∀ n ∈ ts, n.natAbs < 2 ^ 250) ∧ (∀ n ∈ gs, n.natAbs < 2 ^ 250) ∧ ∀ H', R p H H' → Q (.str (pairText ts gs)) H'
theorem ok__law_pair_text (T : Tx K mg cl) : FnG P w K mg base 2 T.a__law_pair_text T.fd__law_pair_text ["_law_pair_here"] (sp__law_pair_text K cl) := by
  refine FnG.ok T.F__law_pair_text sc__law_pair_text (fun vs H Q E h => ?_) (fun cdv A outer s H vs Q E hg hr h => ?_)
  · obtain ⟨_, _, _, _, _, rfl, _, _, _, _, _, _, _⟩ := h
    rfl
  · obtain ⟨p, Z, u, ts, gs, rfl, w, hu, lt, lg, st, sg, q⟩ := h
    refine ⟨_, pss_one (ps_ret (pe_op (kx_add (K := K) rfl) (pe_op (kx_add (K := K) rfl) (pe_fn ((ok__law_text_of T).at hg (hr.mono (by decide)) (b__law_text_of T) .nil passN) rfl T.g__law_text_of T.F__law_text_of.kp (pa_cons (pe_ix (kx_ix (K := K) rfl) (pv 0) (pe_int) (fun _ _ => rfl)) pa_nil)) (pe_str)) (pe_fn ((ok__law_text_of T).at hg (hr.mono (by decide)) (b__law_text_of T) .nil passN) rfl T.g__law_text_of T.F__law_text_of.kp (pa_cons (pe_ix (kx_ix (K := K) rfl) (pv 0) (pe_int) (fun _ _ => rfl)) pa_nil)))), ?_⟩
    try dsimp only [cxg, cxOf, Cx.nox, Cx.wish]
    have l1 := textL_len st lt
    have l2 := textL_len sg lg
    have e1 : (">" : Str).length = 1 := by decide +kernel
    wtm_at "v"
    refine s_ixT (Z := Z) (i := 0) (ds := [lstI ts, lstI gs]) (d := lstI ts) hu rfl (fun v0 h0 => ?_)
    refine ⟨p, Z, v0, ts, rfl, w, h0, lt, st, fun H1 r1 => ?_⟩
    have w1 := w.up r1
    wtm_at "v"
    refine s_add_str (by rw [sizeLine_eq]; omega) ?_
    wtm_at "v"
    refine s_ixT (Z := Z) (i := 1) (ds := [lstI ts, lstI gs]) (d := lstI gs) (by wtm_at "d") rfl (fun v2 h2 => ?_)
    refine ⟨p, Z, v2, gs, rfl, w1, h2, lg, sg, fun H3 r3 => ?_⟩
    refine s_add_str (by rw [len_app, sizeLine_eq]; omega) ?_
    exact q _ (by wtm_at "r")
def sp__law_written (K : PySem.W.Frag) (cl : Cl) : Sp := fun vs H Q _ => ∃ p Z u ts gs, vs = [u] ∧ Wd p Z H ∧ Dat K Z H (pairD ts gs) u ∧ ts.length ≤ 64 ∧ gs.length ≤ 64 ∧ (∀ n ∈ ts, n.natAbs < 2 ^ 250) ∧ (∀ n ∈ gs, n.natAbs < 2 ^ 250) ∧ ∀ H' v, R p H H' → Dat K Z H' (.list [.str (pairText ts gs), .str (pairRepr ts gs)]) v → Q v H'
theorem ok__law_written (T : Tx K mg cl) : FnG P w K mg base 3 T.a__law_written T.fd__law_written ["_law_pair_here"] (sp__law_written K cl) := by
  refine FnG.ok T.F__law_written sc__law_written (fun vs H Q E h => ?_) (fun cdv A outer s H vs Q E hg hr h => ?_)
  · obtain ⟨_, _, _, _, _, rfl, _, _, _, _, _, _, _⟩ := h
    rfl
  · obtain ⟨p, Z, u, ts, gs, rfl, w, hu, lt, lg, st, sg, q⟩ := h
    refine ⟨_, pss_one (ps_ret (pe_lst (pa_cons (pe_fn ((ok__law_pair_text T).at hg (hr.mono (by decide)) (b__law_pair_text T) .nil passN) rfl T.g__law_pair_text T.F__law_pair_text.kp (pa_cons (pv 0) pa_nil)) (pa_cons (pe_op (kx_add (K := K) rfl) (pe_op (kx_add (K := K) rfl) (pe_op (kx_add (K := K) rfl) (pe_op (kx_add (K := K) rfl) (pe_str) (pe_callB (kx_repr (K := K) rfl hg hr) (by rfl) T.z_repr bt_repr (pa_cons (pe_ix (kx_ix (K := K) rfl) (pv 0) (pe_int) (fun _ _ => rfl)) pa_nil))) (pe_str)) (pe_callB (kx_repr (K := K) rfl hg hr) (by rfl) T.z_repr bt_repr (pa_cons (pe_ix (kx_ix (K := K) rfl) (pv 0) (pe_int) (fun _ _ => rfl)) pa_nil))) (pe_str)) pa_nil)))), ?_⟩
    try dsimp only [cxg, cxOf, Cx.nox, Cx.wish]
    have l1 := shown_len st lt
    have l2 := shown_len sg lg
    have e1 : ("Flip(tested=" : Str).length = 12 := by decide +kernel
    have e2 : (", toggled=" : Str).length = 10 := by decide +kernel
    have e3 : (")" : Str).length = 1 := by decide +kernel
    wtm_at "v"
    refine ⟨p, Z, u, ts, gs, rfl, w, hu, lt, lg, st, sg, fun H1 r1 => ?_⟩
    have w1 := w.up r1
    wtm_at "v"
    refine s_ixT (Z := Z) (i := 0) (ds := [lstI ts, lstI gs]) (d := lstI ts) (by wtm_at "d") rfl (fun v2 h2 => ?_)
    wtm_at "v"
    refine s_repr w1.one h2 ((tame_lstI st lt).mono (by decide) (by decide)) ?_
    wtm_at "v"
    refine s_add_str (by rw [sizeLine_eq]; omega) ?_
    wtm_at "v"
    refine s_add_str (by rw [len_app, sizeLine_eq]; omega) ?_
    wtm_at "v"
    refine s_ixT (Z := Z) (i := 1) (ds := [lstI ts, lstI gs]) (d := lstI gs) (by wtm_at "d") rfl (fun v3 h3 => ?_)
    wtm_at "v"
    refine s_repr w1.one h3 ((tame_lstI sg lg).mono (by decide) (by decide)) ?_
    wtm_at "v"
    refine s_add_str (by rw [len_app, len_app, sizeLine_eq]; omega) ?_
    wtm_at "v"
    refine s_add_str (by rw [len_app, len_app, len_app, sizeLine_eq]; omega) ?_
    wtm_at "v"
    refine s_newl K w1 (datL_cons dat_str (datL_cons dat_str datL_nil)) (by simp) (fun H5 v5 r5 h5 => ?_)
    exact q _ _ (by wtm_at "r") h5
def sp_mask_of_sequences (K : PySem.W.Frag) (cl : Cl) : Sp := fun vs H Q _ => ∃ p Z v d ns, vs = [v] ∧ Wd p Z H ∧ Dat K Z H d v ∧ seqD d = some (ns.map .int) ∧ (∀ n ∈ ns, 0 ≤ n ∧ n < 64) ∧ ns.length ≤ 1000 ∧ ∀ H', R p H H' → Q (.int (maskI ns)) H'
theorem ok_mask_of_sequences (T : Tx K mg cl) : FnG P w K mg base 1 T.a_mask_of_sequences T.fd_mask_of_sequences ["spots"] (sp_mask_of_sequences K cl) := by
  refine FnG.ok T.F_mask_of_sequences sc_mask_of_sequences (fun vs H Q E h => ?_) (fun cdv A outer s H vs Q E hg hr h => ?_)
  · obtain ⟨_, _, _, _, _, rfl, _, _, _, _, _, _⟩ := h
    rfl
  · obtain ⟨p, Z, v, d, ns, rfl, w, hd, hs, hm, hl, q⟩ := h
    refine ⟨_, pss_one (ps_ret (pe_callB (kx_sum (K := K) rfl rfl) (by rfl) T.z_sum bt_sum (pa_cons (pe_lc (own := [("spot", 1)]) (g := gName 1) (tt := tYes)  rfl sc_mask_of_sequences.nd (pi_seq (K := K) rfl (pv 0)) (blkOk_by (own := [("spot", 1)]) (N := N_mask_of_sequences) (sc := defScope st_mask_of_sequences) (by decide +kernel)) (fun _ _ _ _ _ => pg_name (i := 1) sc_mask_of_sequences.nd rfl (by first | exact Or.inl rfl | exact Or.inr rfl)) (fun _ _ _ _ _ => pts_nil) (fun _ _ _ _ _ => pe_op op_shl (pe_int) (pv 1))) pa_nil))), ?_⟩
    try dsimp only [cxg, cxOf, Cx.nox, Cx.wish]
    wtm_at "v"
    refine s_iSeq rfl w hd hs (fun J G xs wk hG l => ?_)
    have ey := l.ints
    subst ey
    refine s_lc_map (K := K) wk (sl_lt (by simp; omega)) w (fun i => .int (1 * 2 ^ (ns.getD i 0).toNat)) hG ?_ ?_
    · rintro D i x H2 H3 hD nz hi r w' ⟨rfl, hx⟩ F hF
      have hi' : i < ns.length := by simpa using hi
      have ex : x = .int (ns.getD i 0) := by simpa [hi'] using hx.symm
      subst ex
      have hb := hm (ns.getD i 0) (by simp [hi'])
      wtm_at "v"
      refine ⟨rfl, ?_⟩
      wtm_at "v"
      refine s_rI (cpow hb.1 (by omega) (by decide)) ?_
      exact hF _ _ (R.refl _ _) dat_int
    · intro H2 v2 r2 hv2
      have e : (List.range (ns.map PyData.int).length).map (fun i => PyData.int (1 * 2 ^ (ns.getD i 0).toNat)) = (ns.map fun n => (1 : Int) * 2 ^ n.toNat).map .int := by
        rw [List.length_map, List.map_map]
        exact map_getD ns 0 (fun n => PyData.int (1 * 2 ^ n.toNat))
      rw [e] at hv2
      wtm_at "v"
      refine s_sum hv2 ?_
      exact q _ r2
def sp_cells_in_sequences (K : PySem.W.Frag) (cl : Cl) : Sp := fun vs H Q _ => ∃ p Z m, vs = [.int (m : Nat)] ∧ Wd p Z H ∧ m < 2 ^ 64 ∧ ∀ H' t, R p H H' → H' t = some (.tup ((bitsL m).map V.int)) → H t = none → Q (.ref t) H'
theorem ok_cells_in_sequences (T : Tx K mg cl) : FnG P w K mg base 1 T.a_cells_in_sequences T.fd_cells_in_sequences ["mask"] (sp_cells_in_sequences K cl) := by
  refine FnG.ok T.F_cells_in_sequences sc_cells_in_sequences (fun vs H Q E h => ?_) (fun cdv A outer s H vs Q E hg hr h => ?_)
  · obtain ⟨_, _, _, rfl, _, _, _⟩ := h
    rfl
  · obtain ⟨p, Z, m, rfl, w, hm, q⟩ := h
    refine ⟨_, pss_one (ps_ret (pe_callTy (kx_tuple (K := K) rfl) (by rfl) T.z_tuple bt_tuple (pa_cons (pe_lc (own := [("spot", 1)]) (g := gName 1)  rfl sc_cells_in_sequences.nd (pi_range1 rfl T.z_range (pa_cons (pe_bits (pv 0)) pa_nil)) (blkOk_by (own := [("spot", 1)]) (N := N_cells_in_sequences) (sc := defScope st_cells_in_sequences) (by decide +kernel)) (fun _ _ _ _ _ => pg_name (i := 1) sc_cells_in_sequences.nd rfl (by first | exact Or.inl rfl | exact Or.inr rfl)) (fun _ _ _ _ _ => pts_one (pt_cmpR (kx_eq (K := K) rfl hr) (pe_op op_and (pe_op op_shr (pv 0) (pv 1)) (pe_int)) (pe_int) (nomark _))) (fun _ _ _ _ _ => pv 1)) pa_nil))), ?_⟩
    try dsimp only [cxg, cxOf, Cx.nox, Cx.wish]
    have hb := bits_fit hm
    wtm_at "v"
    refine ⟨by omega, by omega, ?_⟩
    refine s_lc_ints walk_r0 (sl_lt (by simp; omega)) w (fun i ns => ns = ((List.range i).filter fun i => m.testBit i).map fun i => ((i : Nat) : Int)) rfl (fun _ _ => trivial) ?_ ?_
    · rintro D i x H2 H3 ns hD hi rfl r w' ⟨rfl, rfl⟩ F N hF hN
      have hi' : i < 64 := by simp at hi; omega
      wtm_at "v"
      refine ⟨rfl, ?_⟩
      wtm_at "v"
      have e : decide (Builtin.bitAnd ((m : Int) / 2 ^ (i : Int).toNat) 1 = 1) = m.testBit i := by
        rw [Int.toNat_natCast]
        exact bit_at m i
      refine s_rI (Int.natCast_nonneg _) ?_
      wtm_at "v"
      have e0 : ((List.range (i + 1)).filter fun i => m.testBit i) = ((List.range i).filter fun i => m.testBit i) ++ (if m.testBit i = true then [i] else []) := by
        rw [List.range_succ, List.filter_append]
        by_cases c : m.testBit i = true <;> simp [c]
      rw [e]
      refine ite_b (fun h => ?_) (fun h => ?_)
      · wtm_at "v"
        refine hF _ _ (R.refl _ _) ?_
        rw [e0, if_pos h, List.map_append]
        simp
      · refine hN _ (R.refl _ _) ?_
        rw [e0, if_neg (by rw [h]; decide), List.append_nil]
    · rintro H2 a ns r2 ha hn rfl hle
      have w2 := w.up r2
      have ap : a ≠ p := fun z => w.occ p w.mem (z ▸ ha)
      have eb : ((List.range (Builtin.Int.intBits (m : Int) : Int).toNat).filter fun i => m.testBit i).map (fun i => ((i : Nat) : Int)) = bitsL m := by
        rw [Int.toNat_natCast, bitsL, filter_bits (bits_over (m := m)) hb]
      rw [eb] at hn
      wtm_at "v"
      refine ⟨a, _, rfl, .inl ⟨.inl (.inl hn), fun t ht => ?_⟩⟩
      exact q _ t (r2.trans (R.new ht)) upd_same (R.free r2 (fun z => w2.occ p w2.mem (z ▸ ht)) ht)
def sp_is_odd_sequences (K : PySem.W.Frag) (cl : Cl) : Sp := fun vs H Q _ => ∃ p Z m, vs = [.int (m : Nat)] ∧ Wd p Z H ∧ m < 2 ^ 64 ∧ ∀ H', R p H H' → Q (.bl (oddN m)) H'
theorem ok_is_odd_sequences (T : Tx K mg cl) : FnG P w K mg base 2 T.a_is_odd_sequences T.fd_is_odd_sequences ["mask"] (sp_is_odd_sequences K cl) := by
  refine FnG.ok T.F_is_odd_sequences sc_is_odd_sequences (fun vs H Q E h => ?_) (fun cdv A outer s H vs Q E hg hr h => ?_)
  · obtain ⟨_, _, _, rfl, _, _, _⟩ := h
    rfl
  · obtain ⟨p, Z, m, rfl, w, hm, q⟩ := h
    refine ⟨_, pss_one (ps_ret (pe_cmpR (kx_eq (K := K) rfl hr) (pe_op op_modA (pe_callB (kx_len (K := K) rfl) (by rfl) T.z_len bt_len (pa_cons (pe_fn ((ok_cells_in_sequences T).at hg (hr.mono (by decide)) (b_cells_in_sequences T) .nil passN) rfl T.g_cells_in_sequences T.F_cells_in_sequences.kp (pa_cons (pv 0) pa_nil)) pa_nil)) (pe_int)) (pe_int) (nomark _))), ?_⟩
    try dsimp only [cxg, cxOf, Cx.nox, Cx.wish]
    wtm_at "v"
    refine ⟨p, Z, m, rfl, w, hm, fun H1 t r1 h1 ht => ?_⟩
    wtm_at "v"
    refine s_len_tup (Z := Z) (ds := (bitsL m).map .int) (dat_tup (w.ne ht) (.inl (.inl h1)) (datL_int _)) ?_
    rw [List.length_map]
    wtm_at "v"
    have e : decide (((bitsL m).length : Int) % 2 = 1) = oddN m := by
      unfold oddN
      rw [bits_pop hm, Bool.eq_iff_iff, decide_eq_true_eq, decide_eq_true_eq]
      omega
    rw [e]
    exact q H1 r1
def sp_mask_past (K : PySem.W.Frag) (cl : Cl) : Sp := fun vs H Q _ => ∃ p Z m f t g, vs = [.int (m : Nat), f] ∧ Wd p Z H ∧ m < 2 ^ 64 ∧ FlipAt cl H f t g ∧ ∀ H', R p H H' → Q (.int (pastM m t g : Nat)) H'
theorem ok_mask_past (T : Tx K mg cl) : FnG P w K mg base 3 T.a_mask_past T.fd_mask_past ["mask", "later"] (sp_mask_past K cl) := by
  refine FnG.ok T.F_mask_past sc_mask_past (fun vs H Q E h => ?_) (fun cdv A outer s H vs Q E hg hr h => ?_)
  · obtain ⟨_, _, _, _, _, _, rfl, _, _, _, _⟩ := h
    rfl
  · obtain ⟨p, Z, m, f, t, g, rfl, w, hm, F, q⟩ := h
    refine ⟨_, pss_cons (ps_if (pt_val (pe_fn ((ok_is_odd_sequences T).at hg (hr.mono (by decide)) (b_is_odd_sequences T) .nil passN) rfl T.g_is_odd_sequences T.F_is_odd_sequences.kp (pa_cons (pe_op op_and (pv 0) (pe_fn ((ok_mask_of_sequences T).at hg (hr.mono (by decide)) (b_mask_of_sequences T) .nil passN) rfl T.g_mask_of_sequences T.F_mask_of_sequences.kp (pa_cons (pe_mS0 (CallR.S ((ok_Flip__toggled T).at hg (hr.mono (by decide)) (b_Flip__toggled T) .nil passN)) T.cls_Flip T.m_Flip__toggled (pv 1)) pa_nil))) pa_nil))) (pss_one (ps_ret (pe_op op_xor (pv 0) (pe_fn ((ok_mask_of_sequences T).at hg (hr.mono (by decide)) (b_mask_of_sequences T) .nil passN) rfl T.g_mask_of_sequences T.F_mask_of_sequences.kp (pa_cons (pe_mS0 (CallR.S ((ok_Flip__tested T).at hg (hr.mono (by decide)) (b_Flip__tested T) .nil passN)) T.cls_Flip T.m_Flip__tested (pv 1)) pa_nil))))) pss_nil)
    (pss_one (ps_ret (pv 0))), ?_⟩
    try dsimp only [cxg, cxOf, Cx.nox, Cx.wish]
    have l1 : t < 2 ^ 64 := Nat.lt_of_lt_of_le F.ok.lt (by decide)
    have l2 : g < 2 ^ 64 := Nat.lt_of_lt_of_le F.ok.lg (by decide)
    have ne : ∀ m, ∀ k ∈ bitsL m, 0 ≤ k ∧ k < 64 := fun m k hk => by have := bits_mem hk; omega
    obtain ⟨a, dx, rfl, e⟩ := F.ex
    wtm_at "v"
    wtm_at "me"
    refine ⟨p, Z, _, t, g, rfl, w, F, fun H1 a1 r1 h1 ha1 => ?_⟩
    have w1 := w.up r1
    wtm_at "v"
    refine ⟨p, Z, .ref a1, _, bitsL g, rfl, w1, dat_tup (w.ne ha1) (.inl (.inl h1)) (datL_int _), rfl, ne g, by have := bits_len g; omega, fun H2 r2 => ?_⟩
    have w2 := w1.up r2
    rw [maskN (ns := bitsL g), mask_bits l2]
    wtm_at "v"
    rw [and_nn]
    refine ⟨p, Z, _, rfl, w2, Nat.lt_of_le_of_lt Nat.and_le_left hm, fun H3 r3 => ?_⟩
    have w3 := w2.up r3
    wtm_at "v"
    refine ite_b (fun h => ?_) (fun h => ?_)
    · wtm_at "v"
      wtm_at "me"
      refine ⟨p, Z, _, t, g, rfl, w3, by wtm_at "f", fun H4 a4 r4 h4 ha4 => ?_⟩
      have w4 := w3.up r4
      wtm_at "v"
      refine ⟨p, Z, .ref a4, _, bitsL t, rfl, w4, dat_tup (w3.ne ha4) (.inl (.inl h4)) (datL_int _), rfl, ne t, by have := bits_len t; omega, fun H5 r5 => ?_⟩
      rw [maskN (ns := bitsL t), mask_bits l1]
      wtm_at "v"
      rw [xor_nn]
      rw [pastM, if_pos h] at q
      exact q _ (by wtm_at "r")
    · wtm_at "v"
      rw [pastM, if_neg (by rw [h]; decide)] at q
      exact q _ (by wtm_at "r")
def sp_moved_past (K : PySem.W.Frag) (cl : Cl) : Sp := fun vs H Q _ => ∃ p Z a b t g t' g', vs = [a, b] ∧ Wd p Z H ∧ FlipAt cl H a t g ∧ FlipAt cl H b t' g' ∧ ∀ H' v, R p H H' → FlipAt cl H' v (pastM t t' g') (pastM g g' t') → Q v H'
theorem ok_moved_past (T : Tx K mg cl) : FnG P w K mg base 7 T.a_moved_past T.fd_moved_past ["flip", "later"] (sp_moved_past K cl) := by
  refine FnG.ok T.F_moved_past sc_moved_past (fun vs H Q E h => ?_) (fun cdv A outer s H vs Q E hg hr h => ?_)
  · obtain ⟨_, _, _, _, _, _, _, _, rfl, _, _, _, _⟩ := h
    rfl
  · obtain ⟨p, Z, a, b, t, g, t', g', rfl, w, F, F', q⟩ := h
    refine ⟨_, pss_cons ((by first | exact ps_par (i := 2) (j := 3) (by rfl) sc_moved_past.nd rfl rfl (by decide) rfl rfl (pa_cons (pe_fn ((ok_mask_of_sequences T).at hg (hr.mono (by decide)) (b_mask_of_sequences T) .nil passN) rfl T.g_mask_of_sequences T.F_mask_of_sequences.kp (pa_cons (pe_mS0 (CallR.S ((ok_Flip__tested T).at hg (hr.mono (by decide)) (b_Flip__tested T) .nil passN)) T.cls_Flip T.m_Flip__tested (pv 0)) pa_nil)) (pa_cons (pe_fn ((ok_mask_of_sequences T).at hg (hr.mono (by decide)) (b_mask_of_sequences T) .nil passN) rfl T.g_mask_of_sequences T.F_mask_of_sequences.kp (pa_cons (pe_mS0 (CallR.S ((ok_Flip__toggled T).at hg (hr.mono (by decide)) (b_Flip__toggled T) .nil passN)) T.cls_Flip T.m_Flip__toggled (pv 0)) pa_nil)) pa_nil)) (by rfl) | exact ps_asg (pe_tup (pa_cons (pe_fn ((ok_mask_of_sequences T).at hg (hr.mono (by decide)) (b_mask_of_sequences T) .nil passN) rfl T.g_mask_of_sequences T.F_mask_of_sequences.kp (pa_cons (pe_mS0 (CallR.S ((ok_Flip__tested T).at hg (hr.mono (by decide)) (b_Flip__tested T) .nil passN)) T.cls_Flip T.m_Flip__tested (pv 0)) pa_nil)) (pa_cons (pe_fn ((ok_mask_of_sequences T).at hg (hr.mono (by decide)) (b_mask_of_sequences T) .nil passN) rfl T.g_mask_of_sequences T.F_mask_of_sequences.kp (pa_cons (pe_mS0 (CallR.S ((ok_Flip__toggled T).at hg (hr.mono (by decide)) (b_Flip__toggled T) .nil passN)) T.cls_Flip T.m_Flip__toggled (pv 0)) pa_nil)) pa_nil))) (pg_tupK (K := K) rfl rfl (pgs_cons (pg_name (i := 2) sc_moved_past.nd rfl (by first | exact Or.inl rfl | exact Or.inr rfl)) (pgs_cons (pg_name (i := 3) sc_moved_past.nd rfl (by first | exact Or.inl rfl | exact Or.inr rfl)) pgs_nil)))))
    (pss_consJ (ps_if (pt_val (pe_fn ((ok_is_odd_sequences T).at hg (hr.mono (by decide)) (b_is_odd_sequences T) .nil passN) rfl T.g_is_odd_sequences T.F_is_odd_sequences.kp (pa_cons (pe_op op_and (pv 3) (pe_fn ((ok_mask_of_sequences T).at hg (hr.mono (by decide)) (b_mask_of_sequences T) .nil passN) rfl T.g_mask_of_sequences T.F_mask_of_sequences.kp (pa_cons (pe_mS0 (CallR.S ((ok_Flip__tested T).at hg (hr.mono (by decide)) (b_Flip__tested T) .nil passN)) T.cls_Flip T.m_Flip__tested (pv 1)) pa_nil))) pa_nil))) (pss_one (ps_aug (i := 3) sc_moved_past.nd rfl (by first | exact Or.inl rfl | exact Or.inr rfl) (pe_fn ((ok_mask_of_sequences T).at hg (hr.mono (by decide)) (b_mask_of_sequences T) .nil passN) rfl T.g_mask_of_sequences T.F_mask_of_sequences.kp (pa_cons (pe_mS0 (CallR.S ((ok_Flip__toggled T).at hg (hr.mono (by decide)) (b_Flip__toggled T) .nil passN)) T.cls_Flip T.m_Flip__toggled (pv 1)) pa_nil)) ip_xor)) pss_nil)
    (pss_one (ps_ret (pe_fnS ((ok_Flip____init__ T).make T.mk_Flip hg (hr.mono (by decide)) (b_Flip____init__ T) .nil takes0) rfl T.gc_Flip T.mk_Flip.kp (pa_cons (pe_fn ((ok_cells_in_sequences T).at hg (hr.mono (by decide)) (b_cells_in_sequences T) .nil passN) rfl T.g_cells_in_sequences T.F_cells_in_sequences.kp (pa_cons (pe_fn ((ok_mask_past T).at hg (hr.mono (by decide)) (b_mask_past T) .nil passN) rfl T.g_mask_past T.F_mask_past.kp (pa_cons (pv 2) (pa_cons (pv 1) pa_nil))) pa_nil)) (pa_cons (pe_fn ((ok_cells_in_sequences T).at hg (hr.mono (by decide)) (b_cells_in_sequences T) .nil passN) rfl T.g_cells_in_sequences T.F_cells_in_sequences.kp (pa_cons (pv 3) pa_nil)) pa_nil)))))), ?_⟩
    try dsimp only [cxg, cxOf, Cx.nox, Cx.wish]
    have l1 : t < 2 ^ 64 := Nat.lt_of_lt_of_le F.ok.lt (by decide)
    have l2 : g < 2 ^ 64 := Nat.lt_of_lt_of_le F.ok.lg (by decide)
    have l3 : t' < 2 ^ 64 := Nat.lt_of_lt_of_le F'.ok.lt (by decide)
    have l4 : g' < 2 ^ 64 := Nat.lt_of_lt_of_le F'.ok.lg (by decide)
    have ne : ∀ m, ∀ k ∈ bitsL m, 0 ≤ k ∧ k < 64 := fun m k hk => by have := bits_mem hk; omega
    obtain ⟨f, dx, rfl, ef⟩ := F.ex
    obtain ⟨f', dx', rfl, ef'⟩ := F'.ex
    wtm_at "v"
    wtm_at "me"
    refine ⟨p, Z, _, t, g, rfl, w, F, fun H1 a1 r1 h1 ha1 => ?_⟩
    have w1 := w.up r1
    wtm_at "v"
    refine ⟨p, Z, .ref a1, _, bitsL t, rfl, w1, dat_tup (w.ne ha1) (.inl (.inl h1)) (datL_int _), rfl, ne t, by have := bits_len t; omega, fun H2 r2 => ?_⟩
    have w2 := w1.up r2
    wtm_at "v"
    wtm_at "me"
    refine ⟨p, Z, _, t, g, rfl, w2, by wtm_at "f", fun H3 a3 r3 h3 ha3 => ?_⟩
    have w3 := w2.up r3
    wtm_at "v"
    refine ⟨p, Z, .ref a3, _, bitsL g, rfl, w3, dat_tup (w2.ne ha3) (.inl (.inl h3)) (datL_int _), rfl, ne g, by have := bits_len g; omega, fun H4 r4 => ?_⟩
    have w4 := w3.up r4
    rw [maskN (ns := bitsL t), maskN (ns := bitsL g), mask_bits l1, mask_bits l2]
    have F4' : FlipAt cl H4 (.ref f') t' g' := by wtm_at "f"
    have r04 : R p H H4 := by wtm_at "r"
    have lT : pastM t t' g' < 2 ^ 40 := pastM_lt F.ok.lt F'.ok.lt
    have lG : pastM g g' t' < 2 ^ 40 := pastM_lt F.ok.lg F'.ok.lg
    wtm_at "v"
    refine s_seqJ (fun σ' H' => ∃ y, σ' = [some (.ref f), some (.ref f'), some (.int (t : Nat)), some (.int y)] ∧ y = ((pastM g g' t' : Nat) : Int) ∧ R p H4 H') ?_ ?_
    · wtm_at "v"
      wtm_at "me"
      refine ⟨p, Z, _, t', g', rfl, w4, F4', fun H5 a5 r5 h5 ha5 => ?_⟩
      have w5 := w4.up r5
      wtm_at "v"
      refine ⟨p, Z, .ref a5, _, bitsL t', rfl, w5, dat_tup (w4.ne ha5) (.inl (.inl h5)) (datL_int _), rfl, ne t', by have := bits_len t'; omega, fun H6 r6 => ?_⟩
      have w6 := w5.up r6
      rw [maskN (ns := bitsL t'), mask_bits l3]
      wtm_at "v"
      rw [and_nn]
      refine ⟨p, Z, _, rfl, w6, Nat.lt_of_le_of_lt Nat.and_le_left l2, fun H7 r7 => ?_⟩
      have w7 := w6.up r7
      have F7' : FlipAt cl H7 (.ref f') t' g' := F4'.up (r5.trans (r6.trans r7))
      wtm_at "v"
      refine ite_b (fun h => ?_) (fun h => ?_)
      · wtm_at "v"
        refine ⟨_, rfl, ?_⟩
        wtm_at "v"
        wtm_at "me"
        refine ⟨p, Z, _, t', g', rfl, w7, F7', fun H8 a8 r8 h8 ha8 => ?_⟩
        have w8 := w7.up r8
        wtm_at "v"
        refine ⟨p, Z, .ref a8, _, bitsL g', rfl, w8, dat_tup (w7.ne ha8) (.inl (.inl h8)) (datL_int _), rfl, ne g', by have := bits_len g'; omega, fun H9 r9 => ?_⟩
        rw [maskN (ns := bitsL g'), mask_bits l4]
        refine ⟨_, _, rfl, rfl, _, rfl, ?_, (r5.trans (r6.trans r7)).trans (r8.trans r9)⟩
        show Builtin.bitXor (g : Int) (g' : Int) = _
        rw [xor_nn, pastM, if_pos h]
      · wtm_at "v"
        exact ⟨by rw [pastM, if_neg (by rw [h]; decide)], r5.trans (r6.trans r7)⟩
    · rintro σ' H8 ⟨_, rfl, rfl, r8⟩
      have w8 := w4.up r8
      wtm_at "v"
      refine ⟨p, Z, _, _, t', g', rfl, w8, l1, F4'.up r8, fun H9 r9 => ?_⟩
      have w9 := w8.up r9
      wtm_at "v"
      refine ⟨p, Z, _, rfl, w9, Nat.lt_of_lt_of_le lT (by decide), fun H10 a10 r10 h10 ha10 => ?_⟩
      have w10 := w9.up r10
      wtm_at "v"
      refine ⟨p, Z, _, rfl, w10, Nat.lt_of_lt_of_le lG (by decide), fun H11 a11 r11 h11 ha11 => ?_⟩
      have w11 := w10.up r11
      have d10 : Dat K Z H10 (tupI (bitsL (pastM t t' g'))) (.ref a10) := dat_tup (w9.ne ha10) (.inl (.inl h10)) (datL_int _)
      have d11 : Dat K Z H11 (tupI (bitsL (pastM g g' t'))) (.ref a11) := dat_tup (w10.ne ha11) (.inl (.inl h11)) (datL_int _)
      have bt := mask_bits (Nat.lt_of_lt_of_le lT (show 2 ^ 40 ≤ 2 ^ 64 by decide))
      have bg := mask_bits (Nat.lt_of_lt_of_le lG (show 2 ^ 40 ≤ 2 ^ 64 by decide))
      have c0 : (0 : Int) ∉ bitsL (pastM g g' t') := fun z => by
        have b := mask_bit 0 (fun n hn => (bits_mem hn).1) ((bits_asc (pastM g g' t')).imp fun h => by omega)
        rw [bg, past_bit F.ok.fix F'.ok.fix] at b
        exact absurd z (of_decide_eq_false b.symm)
      wtm_at "v"
      refine mkF w11 (d := tupI (bitsL (pastM t t' g'))) (e := tupI (bitsL (pastM g g' t'))) (by wtm_at "d") d11 ((tame_bits _).mono (by decide) (by decide)) ((tame_bits _).mono (by decide) (by decide))
        (cells_asc (s := 40) (fun k hk => by have := bits_below lT hk; omega) (bits_asc _)).1 (cells_asc (s := 40) (fun k hk => by have := bits_below lG hk; omega) (bits_asc _)).1 c0 (by rw [bt, bg]; exact moved_even F.ok.ev F'.ok.ev) (fun H12 v12 r12 F12 => ?_)
      rw [bt, bg] at F12
      exact q H12 v12 (r04.trans (r8.trans (r9.trans (r10.trans (r11.trans r12))))) F12
def sp_Flip____eq__ (K : PySem.W.Frag) (cl : Cl) : Sp := fun vs H Q _ => ∃ v u t g t' g', vs = [v, u] ∧ FlipAt cl H v t g ∧ FlipAt cl H u t' g' ∧ Q (.bl (decide (t = t') && decide (g = g'))) H
theorem ok_Flip____eq__ (T : Tx K mg cl) : FnG P w K mg base 1 T.a_Flip____eq__ T.fd_Flip____eq__ ["self", "other"] (sp_Flip____eq__ K cl) := by
  refine FnG.ok T.F_Flip____eq__ sc_Flip____eq__ (fun vs H Q E h => ?_) (fun cdv A outer s H vs Q E hg hr h => ?_)
  · obtain ⟨_, _, _, _, _, _, rfl, _, _, _⟩ := h
    rfl
  · obtain ⟨v, u, t, g, t', g', rfl, F, F', q⟩ := h
    refine ⟨_, pss_cons (ps_if (pt_not (pt_val (pe_callB (kx_isi (K := K) rfl) (by rfl) T.z_isinstance bt_isinstance (pa_cons (pv 1) (pa_cons (pe_glob (v := .ref cl.Flip) rfl T.gc_Flip rfl) pa_nil))))) (pss_one (ps_ret (pe_bl))) pss_nil)
    (pss_one (ps_ret (pe_and (pe_cmpR (kx_eq (K := K) rfl hr) (pe_fldK (K := K) rfl (pv 0)) (pe_fldK (K := K) rfl (pv 1)) (nomark _)) (pe_one (pe_cmpR (kx_eq (K := K) rfl hr) (pe_fldK (K := K) rfl (pv 0)) (pe_fldK (K := K) rfl (pv 1)) (nomark _)))))), ?_⟩
    try dsimp only [cxg, cxOf, Cx.nox, Cx.wish]
    obtain ⟨a, dx, rfl, e⟩ := F.ex
    obtain ⟨a', dx', rfl, e'⟩ := F'.ex
    wtm_at "v"
    refine s_isiC T.cls_Flip T.ty_Flip T.cq e' ?_
    wtm_at "v"
    refine ⟨a, _, _, _, _, rfl, e, T.cls_Flip, T.no_Flip_test_mask, rfl, ?_⟩
    wtm_at "v"
    refine ⟨a', _, _, _, _, rfl, e', T.cls_Flip, T.no_Flip_test_mask, rfl, ?_⟩
    wtm_at "v"
    refine ite_d (fun h => ?_) (fun h => ?_)
    · have h' : t = t' := by omega
      rw [decide_eq_true h', Bool.true_and] at q
      wtm_at "v"
      refine ⟨a, _, _, _, _, rfl, e, T.cls_Flip, T.no_Flip_toggle_mask, rfl, ?_⟩
      wtm_at "v"
      refine ⟨a', _, _, _, _, rfl, e', T.cls_Flip, T.no_Flip_toggle_mask, rfl, ?_⟩
      wtm_at "v"
      have e2 : decide ((g : Int) = (g' : Int)) = decide (g = g') := by
        rw [Bool.eq_iff_iff, decide_eq_true_eq, decide_eq_true_eq]
        omega
      rw [e2]
      exact q
    · have h' : ¬ t = t' := by omega
      rw [decide_eq_false h', Bool.false_and] at q
      exact q
def sp_Flip__is_idle (K : PySem.W.Frag) (cl : Cl) : Sp := fun vs H Q _ => ∃ v t g, vs = [v] ∧ FlipAt cl H v t g ∧ Q (.bl (t == 0 || g == 0)) H
theorem ok_Flip__is_idle (T : Tx K mg cl) : FnG P w K mg base 1 T.a_Flip__is_idle T.fd_Flip__is_idle ["self"] (sp_Flip__is_idle K cl) := by
  refine FnG.ok T.F_Flip__is_idle sc_Flip__is_idle (fun vs H Q E h => ?_) (fun cdv A outer s H vs Q E hg hr h => ?_)
  · obtain ⟨_, _, _, rfl, _, _⟩ := h
    rfl
  · obtain ⟨v, t, g, rfl, F, q⟩ := h
    refine ⟨_, pss_one (ps_ret (pe_or (pe_cmpR (kx_eq (K := K) rfl hr) (pe_fldK (K := K) rfl (pv 0)) (pe_int) (nomark _)) (pe_one (pe_cmpR (kx_eq (K := K) rfl hr) (pe_fldK (K := K) rfl (pv 0)) (pe_int) (nomark _))))), ?_⟩
    try dsimp only [cxg, cxOf, Cx.nox, Cx.wish]
    obtain ⟨a, dx, rfl, e⟩ := F.ex
    wtm_at "v"
    wtm_at "fl"
    wtm_at "v"
    refine ite_d (fun h => ?_) (fun h => ?_)
    · have : t = 0 := by omega
      subst this
      exact q
    · wtm_at "v"
      wtm_at "fl"
      wtm_at "v"
      have e2 : (t == 0 || g == 0) = decide ((g : Int) = 0) := by
        rw [Bool.eq_iff_iff, Bool.or_eq_true, beq_iff_eq, beq_iff_eq, decide_eq_true_eq]
        omega
      rw [← e2]
      exact q
def sp_Flip__width (K : PySem.W.Frag) (cl : Cl) : Sp := fun vs H Q _ => ∃ v t g, vs = [v] ∧ FlipAt cl H v t g ∧ Q (.int (widM t g : Nat)) H
theorem ok_Flip__width (T : Tx K mg cl) : FnG P w K mg base 1 T.a_Flip__width T.fd_Flip__width ["self"] (sp_Flip__width K cl) := by
  refine FnG.ok T.F_Flip__width sc_Flip__width (fun vs H Q E h => ?_) (fun cdv A outer s H vs Q E hg hr h => ?_)
  · obtain ⟨_, _, _, rfl, _, _⟩ := h
    rfl
  · obtain ⟨v, t, g, rfl, F, q⟩ := h
    refine ⟨_, pss_one (ps_ret (pe_callB (call_max2 rfl) (by rfl) T.z_max bt_max (pa_cons (pe_int) (pa_cons (pe_bits (pe_op op_or (pe_fldK (K := K) rfl (pv 0)) (pe_fldK (K := K) rfl (pv 0)))) pa_nil)))), ?_⟩
    try dsimp only [cxg, cxOf, Cx.nox, Cx.wish]
    obtain ⟨a, dx, rfl, e⟩ := F.ex
    wtm_at "v"
    wtm_at "fl"
    wtm_at "v"
    wtm_at "fl"
    wtm_at "v"
    rw [or_nn]
    wtm_at "v"
    have e2 : (if ((Builtin.Int.intBits ((t ||| g : Nat) : Int) : Nat) : Int) > 1 then ((Builtin.Int.intBits ((t ||| g : Nat) : Int) : Nat) : Int) else 1) = ((widM t g : Nat) : Int) := by
      unfold widM
      split <;> omega
    rw [e2]
    exact q
def sp__law_is_pair (K : PySem.W.Frag) (cl : Cl) : Sp := fun vs H Q _ => ∃ p Z n ts gs v u, vs = [v, u] ∧ Wd p Z H ∧ PairOk n ts gs ∧ 1 ≤ n ∧ n ≤ 40 ∧ FlipAt cl H v (maskI ts).toNat (maskI gs).toNat ∧ Dat K Z H (pairD ts gs) u ∧ ∀ H', R p H H' → Q (.bl true) H'
theorem ok__law_is_pair (T : Tx K mg cl) : FnG P w K mg base 3 T.a__law_is_pair T.fd__law_is_pair ["_law_found", "_law_pair_here"] (sp__law_is_pair K cl) := by
  refine FnG.ok T.F__law_is_pair sc__law_is_pair (fun vs H Q E h => ?_) (fun cdv A outer s H vs Q E hg hr h => ?_)
  · obtain ⟨_, _, _, _, _, _, _, rfl, _, _, _, _, _, _, _⟩ := h
    rfl
  · obtain ⟨p, Z, n, ts, gs, v, u, rfl, w, ok, n1, n40, F, hu, q⟩ := h
    refine ⟨_, pss_cons (ps_if (pt_not (pt_val (pe_callB (kx_isi (K := K) rfl) (by rfl) T.z_isinstance bt_isinstance (pa_cons (pv 0) (pa_cons (pe_glob (v := .ref cl.Flip) rfl T.gc_Flip rfl) pa_nil))))) (pss_one (ps_ret (pe_bl))) pss_nil)
    (pss_cons (ps_set (i := 2) sc__law_is_pair.nd rfl (by first | exact Or.inl rfl | exact Or.inr rfl) (pe_lst (pa_cons (pe_mS0 (CallR.S ((ok_Flip__tested T).at hg (hr.mono (by decide)) (b_Flip__tested T) .nil passN)) T.cls_Flip T.m_Flip__tested (pv 0)) (pa_cons (pe_mS0 (CallR.S ((ok_Flip__toggled T).at hg (hr.mono (by decide)) (b_Flip__toggled T) .nil passN)) T.cls_Flip T.m_Flip__toggled (pv 0)) (pa_cons (pe_mS0 (CallR.S ((ok_Flip__width T).at hg (hr.mono (by decide)) (b_Flip__width T) .nil passN)) T.cls_Flip T.m_Flip__width (pv 0)) (pa_cons (pe_mS0 (CallR.S ((ok_Flip__is_idle T).at hg (hr.mono (by decide)) (b_Flip__is_idle T) .nil passN)) T.cls_Flip T.m_Flip__is_idle (pv 0)) pa_nil))))))
    (pss_cons (ps_set (i := 3) sc__law_is_pair.nd rfl (by first | exact Or.inl rfl | exact Or.inr rfl) (pe_op (kx_add (K := K) rfl) (pe_int) (pe_callB (kx_max (K := K) rfl rfl) (by rfl) T.z_max bt_max (pa_cons (pe_op (kx_add (K := K) rfl) (pe_op (kx_add (K := K) rfl) (pe_lst (pa_cons (pe_int) pa_nil)) (pe_callTy (kx_list (K := K) rfl) (by rfl) T.z_list bt_list (pa_cons (pe_ix (kx_ix (K := K) rfl) (pv 1) (pe_int) (fun _ _ => rfl)) pa_nil))) (pe_callTy (kx_list (K := K) rfl) (by rfl) T.z_list bt_list (pa_cons (pe_ix (kx_ix (K := K) rfl) (pv 1) (pe_int) (fun _ _ => rfl)) pa_nil))) pa_nil))))
    (pss_one (ps_ret (pe_cmpR (kx_eq (K := K) rfl hr) (pe_callB (kx_repr (K := K) rfl hg hr) (by rfl) T.z_repr bt_repr (pa_cons (pv 2) pa_nil)) (pe_callB (kx_repr (K := K) rfl hg hr) (by rfl) T.z_repr bt_repr (pa_cons (pe_lst (pa_cons (pe_callTy (kx_tuple (K := K) rfl) (by rfl) T.z_tuple bt_tuple (pa_cons (pe_ix (kx_ix (K := K) rfl) (pv 1) (pe_int) (fun _ _ => rfl)) pa_nil)) (pa_cons (pe_callTy (kx_tuple (K := K) rfl) (by rfl) T.z_tuple bt_tuple (pa_cons (pe_ix (kx_ix (K := K) rfl) (pv 1) (pe_int) (fun _ _ => rfl)) pa_nil)) (pa_cons (pv 3) (pa_cons (pe_j (pe_or (pe_cmpR (kx_eq (K := K) rfl hr) (pe_callB (kx_len (K := K) rfl) (by rfl) T.z_len bt_len (pa_cons (pe_ix (kx_ix (K := K) rfl) (pv 1) (pe_int) (fun _ _ => rfl)) pa_nil)) (pe_int) (nomark _)) (pe_one (pe_cmpR (kx_eq (K := K) rfl hr) (pe_callB (kx_len (K := K) rfl) (by rfl) T.z_len bt_len (pa_cons (pe_ix (kx_ix (K := K) rfl) (pv 1) (pe_int) (fun _ _ => rfl)) pa_nil)) (pe_int) (nomark _))))) pa_nil))))) pa_nil)) (nomark _)))))), ?_⟩
    try dsimp only [cxg, cxOf, Cx.nox, Cx.wish]
    have lt := ok.tl
    have lg := ok.gl
    obtain ⟨f, dx, rfl, ef⟩ := F.ex
    wtm_at "v"
    refine s_isiC T.cls_Flip T.ty_Flip T.cq ef ?_
    wtm_at "v"
    wtm_at "me"
    refine ⟨p, Z, _, _, _, rfl, w, F, fun H1 a1 r1 h1 ha1 => ?_⟩
    rw [bits_self (fun t h => by have := ok.tr t h; omega) ok.ta] at h1
    have w1 := w.up r1
    have d1 : Dat K Z H1 (tupI ts) (.ref a1) := dat_tup (w.ne ha1) (.inl (.inl h1)) (datL_int _)
    wtm_at "v"
    wtm_at "me"
    refine ⟨p, Z, _, _, _, rfl, w1, by wtm_at "f", fun H2 a2 r2 h2 ha2 => ?_⟩
    rw [bits_self (fun t h => by have := ok.gr t h; omega) ok.ga] at h2
    have w2 := w1.up r2
    have d2 : Dat K Z H2 (tupI gs) (.ref a2) := dat_tup (w1.ne ha2) (.inl (.inl h2)) (datL_int _)
    wtm_at "v"
    wtm_at "me"
    refine ⟨_, _, _, rfl, by wtm_at "f", ?_⟩
    wtm_at "v"
    wtm_at "me"
    refine ⟨_, _, _, rfl, by wtm_at "f", ?_⟩
    have ei : ((maskI ts).toNat == 0 || (maskI gs).toNat == 0) = (decide (ts.length = 0) || decide (gs.length = 0)) := by
      rw [Bool.eq_iff_iff, Bool.or_eq_true, Bool.or_eq_true, beq_iff_eq, beq_iff_eq, decide_eq_true_eq, decide_eq_true_eq, mask_zero_iff, mask_zero_iff, ← List.length_eq_zero_iff, ← List.length_eq_zero_iff]
    wtm_at "v"
    refine s_newl K w2 (datL_cons (d := tupI ts) (by wtm_at "d") (datL_cons (d := tupI gs) (by wtm_at "d") (datL_cons dat_int (datL_cons dat_bl datL_nil)))) (by simp) (fun H3 v3 r3 h3 => ?_)
    have w3 := w2.up r3
    wtm_at "v"
    refine s_newl K w3 (datL_cons dat_int datL_nil) (by simp) (fun H4 v4 r4 h4 => ?_)
    have w4 := w3.up r4
    wtm_at "v"
    refine s_ixT (Z := Z) (i := 0) (ds := [lstI ts, lstI gs]) (d := lstI ts) (by wtm_at "d") rfl (fun v5 h5 => ?_)
    wtm_at "v"
    refine s_list_lst (p := p) (Z := Z) (ds := ts.map .int) w4 h5 (fun H6 v6 r6 h6 => ?_)
    have w6 := w4.up r6
    wtm_at "v"
    refine s_add_lst (ds := [PyData.int 0]) w6 (by wtm_at "d") h6 (by simp only [List.length_map, List.length_singleton]; exact sl_of (by omega)) (fun H7 v7 r7 h7 => ?_)
    have w7 := w6.up r7
    wtm_at "v"
    refine s_ixT (Z := Z) (i := 1) (ds := [lstI ts, lstI gs]) (d := lstI gs) (by wtm_at "d") rfl (fun v8 h8 => ?_)
    wtm_at "v"
    refine s_list_lst (p := p) (Z := Z) (ds := gs.map .int) w7 h8 (fun H9 v9 r9 h9 => ?_)
    have w9 := w7.up r9
    wtm_at "v"
    refine s_add_lst (ds := [PyData.int 0] ++ ts.map .int) w9 (by wtm_at "d") h9 (by simp only [List.length_append, List.length_map, List.length_singleton]; exact sl_of (by omega)) (fun H10 v10 r10 h10 => ?_)
    have w10 := w9.up r10
    have e10 : [PyData.int 0] ++ ts.map PyData.int ++ gs.map PyData.int = (0 :: ts ++ gs).map .int := by simp
    rw [e10] at h10
    wtm_at "v"
    refine s_maxl h10 (by simp) (fun mx hmx hall => ?_)
    have ew := wide_max ok n1 hmx hall
    wtm_at "v"
    rw [← ew]
    have tt : Tame (.list [tupI ts, tupI gs, .int ((widM (maskI ts).toNat (maskI gs).toNat : Nat) : Int), .bool ((maskI ts).toNat == 0 || (maskI gs).toNat == 0)]) 40 50000 := by
      have wl := ok.wid n1
      refine (tame_lst (tameL_of (k := 2) (m := 64) fun e he => ?_)).mono (by decide) (by simp)
      simp only [List.mem_cons, List.not_mem_nil, or_false] at he
      rcases he with rfl | rfl | rfl | rfl
      · exact tame_tupI' (fun k h => by have := ok.tr k h; omega) (by omega)
      · exact tame_tupI' (fun k h => by have := ok.gr k h; omega) (by omega)
      · exact (tame_int (by omega)).mono (by decide) (by decide)
      · exact tame_bool.mono (by decide) (by decide)
    refine s_repr (Z := Z) (d := .list [tupI ts, tupI gs, .int ((widM (maskI ts).toNat (maskI gs).toNat : Nat) : Int), .bool ((maskI ts).toNat == 0 || (maskI gs).toNat == 0)]) w10.one (by wtm_at "d") tt ?_
    wtm_at "v"
    refine s_ixT (Z := Z) (i := 0) (ds := [lstI ts, lstI gs]) (d := lstI ts) (by wtm_at "d") rfl (fun v11 h11 => ?_)
    wtm_at "v"
    refine s_tuple_lst (p := p) (Z := Z) (ds := ts.map .int) w10 h11 (fun H12 v12 r12 h12 => ?_)
    have w12 := w10.up r12
    wtm_at "v"
    refine s_ixT (Z := Z) (i := 1) (ds := [lstI ts, lstI gs]) (d := lstI gs) (by wtm_at "d") rfl (fun v13 h13 => ?_)
    wtm_at "v"
    refine s_tuple_lst (p := p) (Z := Z) (ds := gs.map .int) w12 h13 (fun H14 v14 r14 h14 => ?_)
    have w14 := w12.up r14
    wtm_at "v"
    refine s_j (fun v H' => H' = H14 ∧ v = .bl ((maskI ts).toNat == 0 || (maskI gs).toNat == 0)) ?_ ?_
    · wtm_at "v"
      refine s_ixT (Z := Z) (i := 0) (ds := [lstI ts, lstI gs]) (d := lstI ts) (by wtm_at "d") rfl (fun v15 h15 => ?_)
      wtm_at "v"
      refine s_len_lst h15 ?_
      rw [List.length_map]
      wtm_at "v"
      rw [ei]
      refine ite_d (fun h => ?_) (fun h => ?_)
      · exact ⟨rfl, by rw [decide_eq_true (show ts.length = 0 by omega)]; rfl⟩
      · wtm_at "v"
        refine s_ixT (Z := Z) (i := 1) (ds := [lstI ts, lstI gs]) (d := lstI gs) (by wtm_at "d") rfl (fun v16 h16 => ?_)
        wtm_at "v"
        refine s_len_lst h16 ?_
        rw [List.length_map]
        wtm_at "v"
        refine ⟨rfl, ?_⟩
        rw [decide_eq_false (show ¬ ts.length = 0 by omega), Bool.false_or]
        congr 1
        rw [Bool.eq_iff_iff, decide_eq_true_eq, decide_eq_true_eq]
        omega
    rintro _ _ ⟨rfl, rfl⟩
    wtm_at "v"
    refine s_newl K w14 (datL_cons (d := tupI ts) (by wtm_at "d") (datL_cons (d := tupI gs) h14 (datL_cons dat_int (datL_cons dat_bl datL_nil)))) (by simp) (fun H17 v17 r17 h17 => ?_)
    have w17 := w14.up r17
    wtm_at "v"
    refine s_repr w17.one h17 tt ?_
    wtm_at "v"
    rw [decide_eq_true rfl]
    exact q _ (by wtm_at "r")
def sp__law_parity (K : PySem.W.Frag) (cl : Cl) : Sp := fun vs H Q _ => ∃ p Z n m b s ns, vs = [b, s] ∧ Wd p Z H ∧ Dat K Z H (lstI (bitsOf n m)) b ∧ Dat K Z H (lstI ns) s ∧ (∀ i ∈ ns, 0 ≤ i ∧ i < n) ∧ ns.length ≤ 100 ∧ ∀ H', R p H H' → Q (.int (bitSum m ns % 2)) H'
theorem ok__law_parity (T : Tx K mg cl) : FnG P w K mg base 1 T.a__law_parity T.fd__law_parity ["_law_bits_here", "_law_spots_here"] (sp__law_parity K cl) := by
  refine FnG.ok T.F__law_parity sc__law_parity (fun vs H Q E h => ?_) (fun cdv A outer s H vs Q E hg hr h => ?_)
  · obtain ⟨_, _, _, _, _, _, _, rfl, _, _, _, _, _, _⟩ := h
    rfl
  · obtain ⟨p, Z, n, m, b, s, ns, rfl, w, hb, hs, hm, hl, q⟩ := h
    refine ⟨_, pss_one (ps_ret (pe_op op_modA (pe_callB (kx_sum (K := K) rfl rfl) (by rfl) T.z_sum bt_sum (pa_cons (pe_lc (own := [("_law_spot", 2)]) (g := gName 2) (tt := tYes)  rfl sc__law_parity.nd (pi_seq (K := K) rfl (pv 1)) (blkOk_by (own := [("_law_spot", 2)]) (N := N__law_parity) (sc := defScope st__law_parity) (by decide +kernel)) (fun _ _ _ _ _ => pg_name (i := 2) sc__law_parity.nd rfl (by first | exact Or.inl rfl | exact Or.inr rfl)) (fun _ _ _ _ _ => pts_nil) (fun _ _ _ _ _ => pe_ix (kx_ix (K := K) rfl) (pv 0) (pv 2) (fun _ _ => rfl))) pa_nil)) (pe_int))), ?_⟩
    try dsimp only [cxg, cxOf, Cx.nox, Cx.wish]
    wtm_at "v"
    refine s_iSeq rfl w hs rfl (fun J G xs wk hG l => ?_)
    have ey := l.ints
    subst ey
    refine s_lc_map (K := K) wk (sl_lt (by simp; omega)) w (fun i => .int (bitI m (ns.getD i 0).toNat)) hG ?_ ?_
    · rintro D i x H2 H3 hD nz hi r w' ⟨rfl, hx⟩ F hF
      have hi' : i < ns.length := by simpa using hi
      have ex : x = .int (ns.getD i 0) := by simpa [hi'] using hx.symm
      subst ex
      have hb' := hm (ns.getD i 0) (by simp [hi'])
      wtm_at "v"
      refine ⟨rfl, ?_⟩
      wtm_at "v"
      refine s_ix_lst (ds := (bitsOf n m).map .int) (Dat.lift r w.mem hb) hb'.1 (by rw [List.length_map, bitsOf_len]; exact hb'.2) (fun v d e hd => ?_)
      rw [List.getElem?_map, bitsOf_get (by omega)] at e
      obtain rfl := Option.some.inj e
      have ev := hd.int
      subst ev
      exact hF _ _ (R.refl _ _) dat_int
    · intro H2 v2 r2 hv2
      have e : (List.range (ns.map PyData.int).length).map (fun i => PyData.int (bitI m (ns.getD i 0).toNat)) = (ns.map fun i => bitI m i.toNat).map .int := by
        rw [List.length_map, List.map_map]
        exact map_getD ns 0 (fun n => PyData.int (bitI m n.toNat))
      rw [e] at hv2
      wtm_at "v"
      refine s_sum hv2 ?_
      wtm_at "v"
      exact q _ r2
def sp__law_after (K : PySem.W.Frag) (cl : Cl) : Sp := fun vs H Q _ => ∃ p Z n m ts gs b u, vs = [b, u] ∧ Wd p Z H ∧ PairOk n ts gs ∧ n ≤ 40 ∧ Dat K Z H (lstI (bitsOf n m)) b ∧ Dat K Z H (pairD ts gs) u ∧
  ∀ H' v, R p H H' → Dat K Z H' (lstI (bitsOf n (afterM m (maskI ts).toNat (maskI gs).toNat))) v → Q v H'
theorem ok__law_after (T : Tx K mg cl) : FnG P w K mg base 2 T.a__law_after T.fd__law_after ["_law_bits_here", "_law_pair_here"] (sp__law_after K cl) := by
  refine FnG.ok T.F__law_after sc__law_after (fun vs H Q E h => ?_) (fun cdv A outer s H vs Q E hg hr h => ?_)
  · obtain ⟨_, _, _, _, _, _, _, _, rfl, _, _, _, _, _, _⟩ := h
    rfl
  · obtain ⟨p, Z, n, m, ts, gs, b, u, rfl, w, ok, n40, hb, hu, q⟩ := h
    refine ⟨_, pss_cons (ps_if (pt_cmpR (kx_eq (K := K) rfl hr) (pe_fn ((ok__law_parity T).at hg (hr.mono (by decide)) (b__law_parity T) .nil passN) rfl T.g__law_parity T.F__law_parity.kp (pa_cons (pv 0) (pa_cons (pe_ix (kx_ix (K := K) rfl) (pv 1) (pe_int) (fun _ _ => rfl)) pa_nil))) (pe_int) (nomark _)) (pss_one (ps_ret (pe_callTy (kx_list (K := K) rfl) (by rfl) T.z_list bt_list (pa_cons (pv 0) pa_nil)))) pss_nil)
    (pss_one (ps_ret (pe_lc (own := [("_law_spot", 2), ("_law_bit", 3)]) (g := gTup K 2 (gCons (gName 2) (gCons (gName 3) (gNil)))) (tt := tYes)  rfl sc__law_after.nd (pi_enumA (K := K) rfl (by rfl) T.z_enumerate (pa_cons (pv 0) pa_nil)) (blkOk_by (own := [("_law_spot", 2), ("_law_bit", 3)]) (N := N__law_after) (sc := defScope st__law_after) (by decide +kernel)) (fun _ _ _ _ _ => pg_tupK (K := K) rfl rfl (pgs_cons (pg_name (i := 2) sc__law_after.nd rfl (by first | exact Or.inl rfl | exact Or.inr rfl)) (pgs_cons (pg_name (i := 3) sc__law_after.nd rfl (by first | exact Or.inl rfl | exact Or.inr rfl)) pgs_nil))) (fun _ _ _ _ _ => pts_nil) (fun _ _ _ _ _ => pe_ifExp (pt_cmpR (kx_in (K := K) rfl) (pv 2) (pe_ix (kx_ix (K := K) rfl) (pv 1) (pe_int) (fun _ _ => rfl)) rfl) (pe_op op_sub (pe_int) (pv 3)) (pv 3))))), ?_⟩
    try dsimp only [cxg, cxOf, Cx.nox, Cx.wish]
    have lt := ok.tl
    wtm_at "v"
    refine s_ixT (i := 0) hu rfl (fun v0 h0 => ?_)
    wtm_at "v"
    refine ⟨p, Z, n, m, b, v0, ts, rfl, w, hb, h0, ok.tr, by omega, fun H1 r1 => ?_⟩
    have w1 := w.up r1
    wtm_at "v"
    refine ite_d (fun h => ?_) (fun h => ?_)
    · wtm_at "v"
      refine s_list_lst w1 (ds := (bitsOf n m).map .int) (by wtm_at "d") (fun H2 v2 r2 h2 => ?_)
      rw [afterM_bits ok (by omega) h] at q
      exact q H2 v2 (r1.trans r2) h2
    · wtm_at "v"
      refine s_iEnumV (d := lstI (bitsOf n m)) rfl w1 (by wtm_at "d") rfl (fun J G xs wk hG dl => ?_)
      have ey := dl.ints
      subst ey
      refine s_lc_pair (K := K) wk (sl_lt (by simp [bitsOf_len]; omega)) w1 (fun i => .int (if ((i : Nat) : Int) ∈ gs then 1 - bitI m i else bitI m i)) hG ?_ ?_
      · intro D i x y H5 hD nz hi hx hy r5 w5 F hF
        have hi' : i < n := by simpa [bitsOf_len] using hi
        obtain rfl := Option.some.inj hx
        rw [List.getElem?_map, bitsOf_get hi'] at hy
        obtain rfl := Option.some.inj hy
        refine ⟨rfl, ?_⟩
        wtm_at "v"
        refine s_ixT (i := 1) (ds := [lstI ts, lstI gs]) (Z := Z) (Dat.lift (r1.trans r5) w.mem hu) rfl (fun v6 h6 => ?_)
        refine s_in_ints (Z := Z) (d := lstI gs) (ns := gs) h6 rfl ?_
        wtm_at "v"
        refine ite_d (fun h => ?_) (fun h => ?_)
        · wtm_at "v"
          refine hF _ _ (R.refl _ _) ?_
          rw [if_pos h]
          exact dat_int
        · wtm_at "v"
          refine hF _ _ (R.refl _ _) ?_
          rw [if_neg h]
          exact dat_int
      · intro H5 v5 r5 h5
        rw [List.length_map, bitsOf_len] at h5
        have e5 : (List.range n).map (fun i => PyData.int (if ((i : Nat) : Int) ∈ gs then 1 - bitI m i else bitI m i)) = (bitsOf n (m ^^^ (maskI gs).toNat)).map .int := by
          rw [← bits_xorL ok, List.map_map]
          rfl
        rw [e5] at h5
        rw [afterM_bits1 ok (by omega) h] at q
        exact q H5 v5 (by wtm_at "r") h5
def sp__law_after_all (K : PySem.W.Frag) (cl : Cl) : Sp := fun vs H Q _ => ∃ p Z n m b l, ∃ ps : List (List Int × List Int), vs = [b, l] ∧ Wd p Z H ∧ n ≤ 40 ∧ Dat K Z H (lstI (bitsOf n m)) b ∧ Dat K Z H (.list (ps.map fun q => pairD q.1 q.2)) l ∧ (∀ q ∈ ps, PairOk n q.1 q.2) ∧ ps.length ≤ 1000 ∧
  ∀ H' v, R p H H' → Dat K Z H' (lstI (bitsOf n (afterL m (ps.map fun q => ((maskI q.1).toNat, (maskI q.2).toNat))))) v → Q v H'
theorem ok__law_after_all (T : Tx K mg cl) : FnG P w K mg base 3 T.a__law_after_all T.fd__law_after_all ["_law_bits_here", "_law_pairs"] (sp__law_after_all K cl) := by
  refine FnG.ok T.F__law_after_all sc__law_after_all (fun vs H Q E h => ?_) (fun cdv A outer s H vs Q E hg hr h => ?_)
  · obtain ⟨_, _, _, _, _, _, _, rfl, _, _, _, _, _, _, _⟩ := h
    rfl
  · obtain ⟨p, Z, n, m, b, l, ps, rfl, w, n40, hb, hl, hok, hlen, q⟩ := h
    refine ⟨_, pss_cons (ps_set (i := 2) sc__law_after_all.nd rfl (by first | exact Or.inl rfl | exact Or.inr rfl) (pe_callTy (kx_list (K := K) rfl) (by rfl) T.z_list bt_list (pa_cons (pv 0) pa_nil)))
    (pss_cons (ps_for PassesOwn.never rfl (pi_list (pv 1)) (pg_name (i := 3) sc__law_after_all.nd rfl (by first | exact Or.inl rfl | exact Or.inr rfl))
      (pss_one (ps_set (i := 2) sc__law_after_all.nd rfl (by first | exact Or.inl rfl | exact Or.inr rfl) (pe_fn ((ok__law_after T).at hg (hr.mono (by decide)) (b__law_after T) .nil passN) rfl T.g__law_after T.F__law_after.kp (pa_cons (pv 2) (pa_cons (pv 3) pa_nil))))))
    (pss_one (ps_ret (pv 2)))), ?_⟩
    try dsimp only [cxg, cxOf, Cx.nox, Cx.wish]
    wtm_at "v"
    refine s_list_lst (p := p) (Z := Z) (ds := (bitsOf n m).map .int) w hb (fun H1 v1 r1 h1 => ?_)
    have w1 := w.up r1
    wtm_at "v"
    refine s_iLF (ds := ps.map fun q => pairD q.1 q.2) w1 (by wtm_at "d") (fun J G xs wk hG dl => ?_)
    refine s_forI wk (fun i σ H' => ∃ v y, σ = [some b, some l, some v, y] ∧ R p H1 H' ∧ Dat K Z H' (lstI (bitsOf n (afterL m ((ps.take i).map fun q => ((maskI q.1).toNat, (maskI q.2).toNat))))) v) ⟨v1, _, rfl, R.refl _ _, h1⟩ ?_ ?_ ?_
    · rintro i σ H' _ ⟨_, _, _, r, _⟩
      exact hG _ r
    · rintro i x σ H2 H3 hi ⟨v, y, rfl, r2, h2⟩ ⟨rfl, hx⟩
      rw [List.length_map] at hi
      have dx := (dl.at (i := i) (d := pairD ps[i].1 ps[i].2) (by simp [hi]) hx)
      wtm_at "v"
      refine ⟨p, Z, n, _, ps[i].1, ps[i].2, v, x, rfl, w1.up r2, hok _ (List.getElem_mem hi), n40, h2, Dat.lift r2 w1.mem dx, fun H4 v4 r4 h4 => ?_⟩
      wtm_at "v"
      refine ⟨r2.trans r4, ?_⟩
      rw [List.take_add_one, List.getElem?_eq_getElem hi, List.map_append, afterL, List.foldl_append]
      exact h4
    · rintro σ H2 ⟨v, y, rfl, r2, h2⟩
      rw [List.length_map, List.take_length] at h2
      wtm_at "v"
      exact q H2 v (r1.trans r2) h2
def sp_Board__size (K : PySem.W.Frag) (cl : Cl) : Sp := fun vs H Q _ => ∃ v n m, vs = [v] ∧ BoardAt cl H v n m ∧ Q (.int (n : Nat)) H
theorem ok_Board__size (T : Tx K mg cl) : FnG P w K mg base 1 T.a_Board__size T.fd_Board__size ["self"] (sp_Board__size K cl) := by
  refine FnG.ok T.F_Board__size sc_Board__size (fun vs H Q E h => ?_) (fun cdv A outer s H vs Q E hg hr h => ?_)
  · obtain ⟨_, _, _, rfl, ⟨⟨_, _, rfl, _⟩, _, _, _, _⟩, _⟩ := h
    rfl
  · obtain ⟨v, n, m, rfl, ⟨⟨a, dx, rfl, e⟩, n1, n40, lt, od⟩, q⟩ := h
    refine ⟨_, pss_one (ps_ret (pe_fldK (K := K) rfl (pv 0))), ?_⟩
    try dsimp only [cxg, cxOf, Cx.nox, Cx.wish]
    wtm_at "v"
    refine ⟨a, cl.Board, dx, _, _, rfl, e, T.cls_Board, T.no_Board_own_size, rfl, ?_⟩
    exact q
def sp_require_cell (K : PySem.W.Frag) (cl : Cl) : Sp := fun vs H Q E => ∃ p Z v d lo s, vs = [v, .int lo, .int s] ∧ Wd p Z H ∧ Dat K Z H d v ∧ (intIn d lo (s - 1) = true → Q .non H) ∧
  (intIn d lo (s - 1) = false → ∀ H' b, R p H H' → H' b = some (.xd [("cell", v)]) → H b = none → E (.ref cl.NoCell) (some b) H')
theorem ok_require_cell (T : Tx K mg cl) : FnG P w K mg base 2 T.a_require_cell T.fd_require_cell ["cell", "low", "size"] (sp_require_cell K cl) := by
  refine FnG.okX T.F_require_cell sc_require_cell (fun vs H Q E h => ?_) (fun cdv A outer s H vs Q E hg hr h => ?_)
  · obtain ⟨_, _, _, _, _, _, rfl, _, _, _, _⟩ := h
    rfl
  · obtain ⟨p, Z, v, d, lo, s, rfl, w, hd, qy, qn⟩ := h
    refine ⟨_, pss_one (ps_if (pt_not (pt_val (pe_fn ((ok_is_integer_in T).at hg (hr.mono (by decide)) (b_is_integer_in T) .nil passN) rfl T.g_is_integer_in T.F_is_integer_in.kp (pa_cons (pv 0) (pa_cons (pv 1) (pa_cons (pe_op op_sub (pv 2) (pe_int)) pa_nil)))))) (pss_one (ps_err (k := 0) rfl T.e_NoCell er_rel1 (hr.mono (by decide)) (takes_of rfl rfl rfl rfl) (pa_cons (pv 0) pa_nil) rfl)) pss_nil), ?_⟩
    try dsimp only [cxg, cxOf, Cx.nox, Cx.wish]
    wtm_at "v"
    refine ⟨p, Z, v, d, lo, s - 1, rfl, w, hd, ?_⟩
    wtm_at "v"
    refine ite_nb (fun h => ?_) (fun h => ?_)
    · wtm_at "v"
      exact ⟨rfl, fun b hb => qn h _ b (R.new hb) upd_same hb⟩
    · wtm_at "v"
      exact qy h
def sp_Board__is_up (K : PySem.W.Frag) (cl : Cl) : Sp := fun vs H Q E => ∃ p Z v n m c dc, vs = [v, c] ∧ Wd p Z H ∧ BoardAt cl H v n m ∧ Dat K Z H dc c ∧ (∀ i : Nat, dc = .int i → i < n → Q (.bl (m.testBit i)) H) ∧
  (intIn dc 0 (n - 1) = false → ∀ H' b, R p H H' → H' b = some (.xd [("cell", c)]) → H b = none → E (.ref cl.NoCell) (some b) H')
theorem ok_Board__is_up (T : Tx K mg cl) : FnG P w K mg base 3 T.a_Board__is_up T.fd_Board__is_up ["self", "cell"] (sp_Board__is_up K cl) := by
  refine FnG.okX T.F_Board__is_up sc_Board__is_up (fun vs H Q E h => ?_) (fun cdv A outer s H vs Q E hg hr h => ?_)
  · obtain ⟨_, _, _, _, _, _, _, rfl, _, _, _, _, _⟩ := h
    rfl
  · obtain ⟨p, Z, v, n, m, c, dc, rfl, w, B, hc, qy, qn⟩ := h
    refine ⟨_, pss_cons (ps_expr (pe_fnS ((ok_require_cell T).atS hg (hr.mono (by decide)) (b_require_cell T) .nil (takes_of rfl rfl rfl rfl)) rfl T.g_require_cell T.F_require_cell.kp (pa_cons (pv 1) (pa_cons (pe_int) (pa_cons (pe_fldK (K := K) rfl (pv 0)) pa_nil)))))
    (pss_one (ps_ret (pe_cmpR (kx_eq (K := K) rfl hr) (pe_op op_and (pe_op op_shr (pe_fldK (K := K) rfl (pv 0)) (pv 1)) (pe_int)) (pe_int) (nomark _)))), ?_⟩
    try dsimp only [cxg, cxOf, Cx.nox, Cx.wish]
    obtain ⟨a, dx, rfl, e⟩ := B.ex
    wtm_at "v"
    refine ⟨a, cl.Board, dx, _, _, rfl, e, T.cls_Board, T.no_Board_own_size, rfl, ?_⟩
    wtm_at "v"
    refine ⟨p, Z, c, dc, 0, n, rfl, w, hc, fun hy => ?_, qn⟩
    obtain ⟨i, rfl, i0, i1⟩ := intIn_int hy
    obtain ⟨i, rfl⟩ := Int.eq_ofNat_of_zero_le i0
    have ev := hc.int
    subst ev
    wtm_at "v"
    refine ⟨a, cl.Board, dx, _, _, rfl, e, T.cls_Board, T.no_Board_up_mask, rfl, ?_⟩
    wtm_at "v"
    refine s_rI (Int.natCast_nonneg _) ?_
    wtm_at "v"
    have e1 : decide (Builtin.bitAnd ((m : Int) / 2 ^ (i : Int).toNat) 1 = 1) = m.testBit i := by
      rw [Int.toNat_natCast]
      exact bit_at m i
    rw [e1]
    exact qy i rfl (by omega)
def sp_Board__parity (K : PySem.W.Frag) (cl : Cl) : Sp := fun vs H Q E => ∃ p Z v n m c dc, vs = [v, c] ∧ Wd p Z H ∧ BoardAt cl H v n m ∧ Dat K Z H dc c ∧ Tame dc 40 1000 ∧
  (∀ ns, cellsD dc n = some ns → ∀ H', R p H H' → Q (.int (if oddN ((maskI ns).toNat &&& m) then 1 else 0)) H') ∧
  (cellsD dc n = none → ∀ H' b, R p H H' → H' b = some (.xd [("cells", c)]) → H b = none → E (.ref cl.NoCells) (some b) H')
theorem ok_Board__parity (T : Tx K mg cl) : FnG P w K mg base 5 T.a_Board__parity T.fd_Board__parity ["self", "cells"] (sp_Board__parity K cl) := by
  refine FnG.okX T.F_Board__parity sc_Board__parity (fun vs H Q E h => ?_) (fun cdv A outer s H vs Q E hg hr h => ?_)
  · obtain ⟨_, _, _, _, _, _, _, rfl, _, _, _, _, _, _⟩ := h
    rfl
  · obtain ⟨p, Z, v, n, m, c, dc, rfl, w, B, hc, t, qy, qn⟩ := h
    refine ⟨_, pss_one (ps_ret (pe_callTy call_int1 (by rfl) T.z_int bt_int (pa_cons (pe_fn ((ok_is_odd_cells T).at hg (hr.mono (by decide)) (b_is_odd_cells T) .nil passN) rfl T.g_is_odd_cells T.F_is_odd_cells.kp (pa_cons (pe_op op_and (pe_fnS ((ok_cell_mask T).atS hg (hr.mono (by decide)) (b_cell_mask T) .nil (takes_of rfl rfl rfl rfl)) rfl T.g_cell_mask T.F_cell_mask.kp (pa_cons (pv 1) (pa_cons (pe_fldK (K := K) rfl (pv 0)) pa_nil))) (pe_fldK (K := K) rfl (pv 0))) pa_nil)) pa_nil))), ?_⟩
    try dsimp only [cxg, cxOf, Cx.nox, Cx.wish]
    have n40 := B.n40
    obtain ⟨a, dx, rfl, e⟩ := B.ex
    wtm_at "v"
    refine ⟨a, cl.Board, dx, _, _, rfl, e, T.cls_Board, T.no_Board_own_size, rfl, ?_⟩
    wtm_at "v"
    refine ⟨p, Z, c, dc, n, rfl, w, hc, t, by omega, fun ns e1 H1 r1 => ?_, qn⟩
    have x1 := ins_up r1 e
    wtm_at "v"
    refine ⟨a, cl.Board, dx, _, _, rfl, x1, T.cls_Board, T.no_Board_up_mask, rfl, ?_⟩
    have em : maskI ns = (((maskI ns).toNat : Nat) : Int) := by have := maskI_nn ns; omega
    rw [em]
    wtm_at "v"
    rw [and_nn]
    wtm_at "v"
    refine ⟨_, rfl, ?_⟩
    wtm_at "v"
    refine .inr ⟨_, rfl, ?_⟩
    exact qy ns e1 H1 r1
def sp_Board__up (K : PySem.W.Frag) (cl : Cl) : Sp := fun vs H Q _ => ∃ p Z v n m, vs = [v] ∧ Wd p Z H ∧ BoardAt cl H v n m ∧ ∀ H' t, R p H H' → H' t = some (.tup ((bitsL m).map V.int)) → H t = none → Q (.ref t) H'
theorem ok_Board__up (T : Tx K mg cl) : FnG P w K mg base 2 T.a_Board__up T.fd_Board__up ["self"] (sp_Board__up K cl) := by
  refine FnG.ok T.F_Board__up sc_Board__up (fun vs H Q E h => ?_) (fun cdv A outer s H vs Q E hg hr h => ?_)
  · obtain ⟨_, _, _, _, _, rfl, _, _, _⟩ := h
    rfl
  · obtain ⟨p, Z, v, n, m, rfl, w, B, q⟩ := h
    refine ⟨_, pss_one (ps_ret (pe_fn ((ok_cells_in_cells T).at hg (hr.mono (by decide)) (b_cells_in_cells T) .nil passN) rfl T.g_cells_in_cells T.F_cells_in_cells.kp (pa_cons (pe_fldK (K := K) rfl (pv 0)) pa_nil))), ?_⟩
    try dsimp only [cxg, cxOf, Cx.nox, Cx.wish]
    obtain ⟨a, dx, rfl, e⟩ := B.ex
    wtm_at "v"
    refine ⟨a, cl.Board, dx, _, _, rfl, e, T.cls_Board, T.no_Board_up_mask, rfl, ?_⟩
    wtm_at "v"
    exact ⟨p, Z, m, rfl, w, B.lt64, q⟩
def sp__law_up (K : PySem.W.Frag) (cl : Cl) : Sp := fun vs H Q _ => ∃ p Z n m b, vs = [b] ∧ Wd p Z H ∧ Dat K Z H (lstI (bitsOf n m)) b ∧ n ≤ 64 ∧ m < 2 ^ n ∧ ∀ H' a, R p H H' → H a = none → H' a = some (.lst ((bitsL m).map V.int)) → Q (.ref a) H'
theorem ok__law_up (T : Tx K mg cl) : FnG P w K mg base 1 T.a__law_up T.fd__law_up ["_law_bits_here"] (sp__law_up K cl) := by
  refine FnG.ok T.F__law_up sc__law_up (fun vs H Q E h => ?_) (fun cdv A outer s H vs Q E hg hr h => ?_)
  · obtain ⟨_, _, _, _, _, rfl, _, _, _, _, _⟩ := h
    rfl
  · obtain ⟨p, Z, n, m, b, rfl, w, hb, n1, lt, q⟩ := h
    refine ⟨_, pss_one (ps_ret (pe_lc (own := [("_law_spot", 1), ("_law_bit", 2)]) (g := gTup K 2 (gCons (gName 1) (gCons (gName 2) (gNil))))  rfl sc__law_up.nd (pi_enumA (K := K) rfl (by rfl) T.z_enumerate (pa_cons (pv 0) pa_nil)) (blkOk_by (own := [("_law_spot", 1), ("_law_bit", 2)]) (N := N__law_up) (sc := defScope st__law_up) (by decide +kernel)) (fun _ _ _ _ _ => pg_tupK (K := K) rfl rfl (pgs_cons (pg_name (i := 1) sc__law_up.nd rfl (by first | exact Or.inl rfl | exact Or.inr rfl)) (pgs_cons (pg_name (i := 2) sc__law_up.nd rfl (by first | exact Or.inl rfl | exact Or.inr rfl)) pgs_nil))) (fun _ _ _ _ _ => pts_one (pt_cmpR (kx_eq (K := K) rfl hr) (pv 2) (pe_int) (nomark _))) (fun _ _ _ _ _ => pv 1))), ?_⟩
    try dsimp only [cxg, cxOf, Cx.nox, Cx.wish]
    wtm_at "v"
    refine s_iEnumV rfl w hb rfl (fun J G xs wk hG l => ?_)
    have ey := l.ints
    subst ey
    refine s_lc_pairInts wk (sl_lt (by simp [bitsOf_len]; omega)) w (fun i ns => ns = ((List.range i).filter fun i => m.testBit i).map fun i => ((i : Nat) : Int)) rfl hG ?_ ?_
    · rintro D i x y H2 ns hD hi rfl r w' hx hy F N hF hN
      have hi' : i < n := by simpa [bitsOf_len] using hi
      obtain rfl := Option.some.inj hx
      rw [List.getElem?_map, bitsOf_get hi'] at hy
      obtain rfl := Option.some.inj hy
      refine ⟨rfl, ?_⟩
      wtm_at "v"
      have e : decide (bitI m i = 1) = m.testBit i := by rw [Bool.eq_iff_iff, decide_eq_true_eq, bitI_one]
      have e0 : ((List.range (i + 1)).filter fun i => m.testBit i) = ((List.range i).filter fun i => m.testBit i) ++ (if m.testBit i = true then [i] else []) := by
        rw [List.range_succ, List.filter_append]
        by_cases c : m.testBit i = true <;> simp [c]
      rw [e]
      refine ite_b (fun h => ?_) (fun h => ?_)
      · wtm_at "v"
        refine hF _ _ (R.refl _ _) ?_
        rw [e0, if_pos h, List.map_append]
        simp
      · refine hN _ (R.refl _ _) ?_
        rw [e0, if_neg (by rw [h]; decide), List.append_nil]
    · rintro H2 a ns r2 ha hn rfl hle
      rw [List.length_map, bitsOf_len, ← bits_lt lt n1] at hn
      exact q _ a r2 ha hn
def sp__law_is_so (K : PySem.W.Frag) (cl : Cl) : Sp := fun vs H Q _ => ∃ p Z n m v b, vs = [v, b] ∧ Wd p Z H ∧ BoardAt cl H v n m ∧ Dat K Z H (lstI (bitsOf n m)) b ∧ ∀ H', R p H H' → Q (.bl true) H'
theorem ok__law_is_so (T : Tx K mg cl) : FnG P w K mg base 6 T.a__law_is_so T.fd__law_is_so ["_law_found", "_law_bits_here"] (sp__law_is_so K cl) := by
  refine FnG.ok T.F__law_is_so sc__law_is_so (fun vs H Q E h => ?_) (fun cdv A outer s H vs Q E hg hr h => ?_)
  · obtain ⟨_, _, _, _, _, _, rfl, _, _, _, _⟩ := h
    rfl
  · obtain ⟨p, Z, n, m, v, b, rfl, w, B, hb, q⟩ := h
    refine ⟨_, pss_cons (ps_if (PW.pt (pw_or (pt_not (pt_val (pe_callB (kx_isi (K := K) rfl) (by rfl) T.z_isinstance bt_isinstance (pa_cons (pv 0) (pa_cons (pe_glob (v := .ref cl.Board) rfl T.gc_Board rfl) pa_nil))))) (pw_or1 (pt_cmpR (kx_ne (K := K) rfl hr) (pe_mS0 (CallR.S ((ok_Board__size T).at hg (hr.mono (by decide)) (b_Board__size T) .nil passN)) T.cls_Board T.m_Board__size (pv 0)) (pe_callB (kx_len (K := K) rfl) (by rfl) T.z_len bt_len (pa_cons (pv 1) pa_nil)) (nomark _))))) (pss_one (ps_ret (pe_bl))) pss_nil)
    (pss_cons (ps_set (i := 2) sc__law_is_so.nd rfl (by first | exact Or.inl rfl | exact Or.inr rfl) (pe_op (kx_add (K := K) rfl) (pe_lc (own := [("_law_spot", 3)]) (g := gName 3) (tt := tYes)  rfl sc__law_is_so.nd (pi_range1 rfl T.z_range (pa_cons (pe_callB (kx_len (K := K) rfl) (by rfl) T.z_len bt_len (pa_cons (pv 1) pa_nil)) pa_nil)) (blkOk_by (own := [("_law_spot", 3)]) (N := N__law_is_so) (sc := defScope st__law_is_so) (by decide +kernel)) (fun _ _ _ _ _ => pg_name (i := 3) sc__law_is_so.nd rfl (by first | exact Or.inl rfl | exact Or.inr rfl)) (fun _ _ _ _ _ => pts_nil) (fun _ _ _ _ _ => pe_mS ((ok_Board__is_up T).atS hg (hr.mono (by decide)) (b_Board__is_up T) .nil takes0) T.cls_Board T.m_Board__is_up (pv 0) (pa_cons (pv 3) pa_nil))) (pe_lst (pa_cons (pe_mS ((ok_Board__parity T).atS hg (hr.mono (by decide)) (b_Board__parity T) .nil takes0) T.cls_Board T.m_Board__parity (pv 0) (pa_cons (pe_listRg rfl rfl T.z_list (prg_1 rfl T.z_range (pe_callB (kx_len (K := K) rfl) (by rfl) T.z_len bt_len (pa_cons (pv 1) pa_nil)))) pa_nil)) pa_nil))))
    (pss_cons (ps_if (pt_cmpR (kx_ne (K := K) rfl hr) (pe_callB (kx_repr (K := K) rfl hg hr) (by rfl) T.z_repr bt_repr (pa_cons (pv 2) pa_nil)) (pe_callB (kx_repr (K := K) rfl hg hr) (by rfl) T.z_repr bt_repr (pa_cons (pe_op (kx_add (K := K) rfl) (pe_lc (own := [("_law_bit", 4)]) (g := gName 4) (tt := tYes)  rfl sc__law_is_so.nd (pi_seq (K := K) rfl (pv 1)) (blkOk_by (own := [("_law_bit", 4)]) (N := N__law_is_so) (sc := defScope st__law_is_so) (by decide +kernel)) (fun _ _ _ _ _ => pg_name (i := 4) sc__law_is_so.nd rfl (by first | exact Or.inl rfl | exact Or.inr rfl)) (fun _ _ _ _ _ => pts_nil) (fun _ _ _ _ _ => pe_cmpR (kx_eq (K := K) rfl hr) (pv 4) (pe_int) (nomark _))) (pe_lst (pa_cons (pe_op op_modA (pe_callB (kx_sum (K := K) rfl rfl) (by rfl) T.z_sum bt_sum (pa_cons (pv 1) pa_nil)) (pe_int)) pa_nil))) pa_nil)) (nomark _)) (pss_one (ps_ret (pe_bl))) pss_nil)
    (pss_one (ps_ret (pe_cmpR (kx_eq (K := K) rfl hr) (pe_callB (kx_repr (K := K) rfl hg hr) (by rfl) T.z_repr bt_repr (pa_cons (pe_mS0 (CallR.S ((ok_Board__up T).at hg (hr.mono (by decide)) (b_Board__up T) .nil passN)) T.cls_Board T.m_Board__up (pv 0)) pa_nil)) (pe_callB (kx_repr (K := K) rfl hg hr) (by rfl) T.z_repr bt_repr (pa_cons (pe_callTy (kx_tuple (K := K) rfl) (by rfl) T.z_tuple bt_tuple (pa_cons (pe_fn ((ok__law_up T).at hg (hr.mono (by decide)) (b__law_up T) .nil passN) rfl T.g__law_up T.F__law_up.kp (pa_cons (pv 1) pa_nil)) pa_nil)) pa_nil)) (nomark _)))))), ?_⟩
    try dsimp only [cxg, cxOf, Cx.nox, Cx.wish]
    have n1 := B.n1
    have n40 := B.n40
    have lt := B.lt
    obtain ⟨a, dx, rfl, e⟩ := B.ex
    have cr : ∀ k ∈ intsTo n, 0 ≤ k ∧ k < n := fun k hk => mem_intsTo.mp hk
    have ca := (cells_asc (s := (n : Nat)) (ns := intsTo n) cr (intsTo_asc n)).2
    have nn : (intsTo n).Nodup := (intsTo_asc n).imp fun h => by omega
    have ln : (intsTo n).length = n := by unfold intsTo; simp
    have ep : (if oddN ((maskI (intsTo n)).toNat &&& m) then (1 : Int) else 0) = (bitsOf n m).sum % 2 := by
      rw [parity_and (fun t h => by have := cr t h; omega) nn, bitSum_to]
    have tb := told_bools n m ((bitsOf n m).sum % 2) n40 (by have := Int.emod_lt_of_pos (bitsOf n m).sum (show (0 : Int) < 2 by decide); have := Int.emod_nonneg (bitsOf n m).sum (show (2 : Int) ≠ 0 by decide); omega)
    have e0 : rgV 0 (n : Int) = (intsTo n).map V.int := by
      rw [rgV_ints]
      congr 1
      unfold intsTo
      rw [show ((n : Int) - 0).toNat = n by omega]
      apply List.map_congr_left
      intro i _
      omega
    wtm_at "v"
    refine s_isiC T.cls_Board T.ty_Board T.cq e ?_
    wtm_at "v"
    wtm_at "me"
    refine ⟨_, n, m, rfl, B, ?_⟩
    wtm_at "v"
    refine s_len_lst (Z := Z) (ds := (bitsOf n m).map .int) (by wtm_at "d") ?_
    rw [List.length_map, bitsOf_len]
    wtm_at "v"
    refine ite_nd (fun h => absurd rfl h) (fun _ => ?_)
    wtm_at "v"
    refine s_len_lst (Z := Z) (ds := (bitsOf n m).map .int) (by wtm_at "d") ?_
    rw [List.length_map, bitsOf_len]
    wtm_at "v"
    refine ⟨by omega, by omega, ?_⟩
    refine s_lc_map (K := K) walk_r0 (sl_lt (by simp; omega)) w (fun i => .bool (m.testBit i)) (fun _ _ => trivial) ?_ ?_
    · rintro D i x H5 H6 hD nz hi r5 w' ⟨rfl, rfl⟩ F hF
      have hi' : i < n := by simpa using hi
      wtm_at "v"
      refine ⟨rfl, ?_⟩
      wtm_at "v"
      wtm_at "me"
      wtm_at "v"
      refine ⟨p, D :: Z, .ref a, n, m, .int i, .int i, rfl, w', by wtm_at "b", dat_int, fun j ej hj => ?_, fun z => absurd z (by simp [intIn]; omega)⟩
      obtain rfl : i = j := by have := PyData.int.inj ej; omega
      exact hF _ _ (R.refl _ _) dat_bl
    · intro H1 v1 r1 h1
      have w1 := w.up r1
      rw [Int.toNat_natCast] at h1
      wtm_at "v"
      wtm_at "me"
      wtm_at "v"
      refine s_len_lst (Z := Z) (ds := (bitsOf n m).map .int) (by wtm_at "d") ?_
      rw [List.length_map, bitsOf_len]
      wtm_at "v"
      refine ⟨RgOk.of_le (by omega) (by omega) (by omega) (by omega), fun l2 hl2 => ?_⟩
      rw [e0]
      have r2 : R p H1 (upd H1 l2 (.lst ((intsTo n).map V.int))) := R.new hl2
      have h2 : (upd H1 l2 (.lst ((intsTo n).map V.int))) l2 = some (.lst ((intsTo n).map V.int)) := upd_same
      generalize upd H1 l2 (.lst ((intsTo n).map V.int)) = H2 at r2 h2
      have w2 := w1.up r2
      have d2 : Dat K Z H2 (lstI (intsTo n)) (.ref l2) := dat_lst (w1.ne hl2) (.inl h2) (datL_int _)
      wtm_at "v"
      refine ⟨p, Z, .ref a, n, m, .ref l2, lstI (intsTo n), rfl, w2, by wtm_at "b", d2, (tame_lstI (k := 40) (fun k h => by have := cr k h; omega) (by omega)).mono (by decide) (by decide), fun ns' e' H3 r3 => ?_, fun e' => by rw [ca] at e'; cases e'⟩
      rw [ca] at e'
      obtain rfl := Option.some.inj e'
      rw [ep]
      have w3 := w2.up r3
      wtm_at "v"
      refine s_newl K w3 (datL_cons dat_int datL_nil) (by simp) (fun H4 v4 r4 h4 => ?_)
      have w4 := w3.up r4
      wtm_at "v"
      refine s_add_lst (ds := (List.range n).map fun i => PyData.bool (m.testBit i)) w4 (by wtm_at "d") h4 (by simp only [List.length_map, List.length_range, List.length_singleton]; exact sl_of (by omega)) (fun H5 v5 r5 h5 => ?_)
      have w5 := w4.up r5
      wtm_at "v"
      refine s_repr w5.one h5 tb ?_
      wtm_at "v"
      refine s_iSeq (d := lstI (bitsOf n m)) rfl w5 (by wtm_at "d") rfl (fun J G xs wk hG l => ?_)
      have ey := l.ints
      subst ey
      refine s_lc_map (K := K) wk (sl_lt (by simp [bitsOf_len]; omega)) w5 (fun i => .bool (m.testBit i)) hG ?_ ?_
      · rintro D i x H6 H7 hD nz hi r6 w' ⟨rfl, hx⟩ F hF
        have hi' : i < n := by simpa [bitsOf_len] using hi
        rw [List.getElem?_map, bitsOf_get hi'] at hx
        obtain rfl := Option.some.inj hx
        wtm_at "v"
        refine ⟨rfl, ?_⟩
        wtm_at "v"
        have e : decide (bitI m i = 1) = m.testBit i := by rw [Bool.eq_iff_iff, decide_eq_true_eq, bitI_one]
        rw [e]
        exact hF _ _ (R.refl _ _) dat_bl
      · intro H6 v6 r6 h6
        have w6 := w5.up r6
        rw [List.length_map, bitsOf_len] at h6
        wtm_at "v"
        refine s_sum (Z := Z) (ks := bitsOf n m) (by wtm_at "d") ?_
        wtm_at "v"
        refine s_newl K w6 (datL_cons dat_int datL_nil) (by simp) (fun H7 v7 r7 h7 => ?_)
        have w7 := w6.up r7
        wtm_at "v"
        refine s_add_lst (ds := (List.range n).map fun i => PyData.bool (m.testBit i)) w7 (by wtm_at "d") h7 (by simp only [List.length_map, List.length_range, List.length_singleton]; exact sl_of (by omega)) (fun H8 v8 r8 h8 => ?_)
        have w8 := w7.up r8
        wtm_at "v"
        refine s_repr w8.one h8 tb ?_
        wtm_at "v"
        refine ite_nd (fun h => absurd rfl h) (fun _ => ?_)
        wtm_at "v"
        wtm_at "me"
        refine ⟨p, Z, _, n, m, rfl, w8, by wtm_at "b", fun H9 t r9 h9 ht => ?_⟩
        have w9 := w8.up r9
        wtm_at "v"
        refine s_repr w9.one (dat_tup (w8.ne ht) (.inl (.inl h9)) (datL_int _)) ((tame_bits m).mono (by decide) (by decide)) ?_
        wtm_at "v"
        refine ⟨p, Z, n, m, _, rfl, w9, by wtm_at "d", by omega, lt, fun H10 a10 r10 ha10 h10 => ?_⟩
        have w10 := w9.up r10
        wtm_at "v"
        refine s_tuple_lst (ds := (bitsL m).map .int) w10 (dat_lst (w9.ne ha10) (.inl h10) (datL_int _)) (fun H11 v11 r11 h11 => ?_)
        have w11 := w10.up r11
        wtm_at "v"
        refine s_repr w11.one h11 ((tame_bits m).mono (by decide) (by decide)) ?_
        wtm_at "v"
        rw [decide_eq_true rfl]
        exact q _ (by wtm_at "r")
def sp_require_fit (K : PySem.W.Frag) (cl : Cl) : Sp := fun vs H Q E => ∃ p Z v t g, ∃ n : Nat, vs = [v, .int n] ∧ Wd p Z H ∧ FlipAt cl H v t g ∧ (widM t g ≤ n → Q .non H) ∧
  (n < widM t g → ∀ H' b, R p H H' → H' b = some (.xd [("needed", .int (widM t g : Nat))]) → H b = none → E (.ref cl.TooWide) (some b) H')
theorem ok_require_fit (T : Tx K mg cl) : FnG P w K mg base 2 T.a_require_fit T.fd_require_fit ["flip", "size"] (sp_require_fit K cl) := by
  refine FnG.okX T.F_require_fit sc_require_fit (fun vs H Q E h => ?_) (fun cdv A outer s H vs Q E hg hr h => ?_)
  · obtain ⟨_, _, _, _, _, _, rfl, _, _, _, _⟩ := h
    rfl
  · obtain ⟨p, Z, v, t, g, n, rfl, w, F, qy, qn⟩ := h
    refine ⟨_, pss_one (ps_if (pt_cmpR op_gt (pe_mS0 (CallR.S ((ok_Flip__width T).at hg (hr.mono (by decide)) (b_Flip__width T) .nil passN)) T.cls_Flip T.m_Flip__width (pv 0)) (pv 1) (nomark _)) (pss_one (ps_err (k := 0) rfl T.e_TooWide er_rel1 (hr.mono (by decide)) (takes_of rfl rfl rfl rfl) (pa_cons (pe_mS0 (CallR.S ((ok_Flip__width T).at hg (hr.mono (by decide)) (b_Flip__width T) .nil passN)) T.cls_Flip T.m_Flip__width (pv 0)) pa_nil) rfl)) pss_nil), ?_⟩
    try dsimp only [cxg, cxOf, Cx.nox, Cx.wish]
    obtain ⟨a, dx, rfl, e⟩ := F.ex
    wtm_at "v"
    wtm_at "me"
    refine ⟨_, t, g, rfl, F, ?_⟩
    wtm_at "v"
    refine ite_d (fun h => ?_) (fun h => ?_)
    · wtm_at "v"
      wtm_at "me"
      refine ⟨_, t, g, rfl, F, ?_⟩
      wtm_at "v"
      exact ⟨rfl, fun b hb => qn (by omega) _ b (R.new hb) upd_same hb⟩
    · wtm_at "v"
      exact qy (by omega)
def sp_require_size (K : PySem.W.Frag) (cl : Cl) : Sp := fun vs H Q E => ∃ p Z v d, vs = [v] ∧ Wd p Z H ∧ Dat K Z H d v ∧ (intIn d 1 40 = true → Q .non H) ∧
  (intIn d 1 40 = false → ∀ H' b, R p H H' → H' b = some (.xd [("value", v)]) → H b = none → E (.ref cl.NoSize) (some b) H')
theorem ok_require_size (T : Tx K mg cl) : FnG P w K mg base 2 T.a_require_size T.fd_require_size ["size"] (sp_require_size K cl) := by
  refine FnG.okX T.F_require_size sc_require_size (fun vs H Q E h => ?_) (fun cdv A outer s H vs Q E hg hr h => ?_)
  · obtain ⟨_, _, _, _, rfl, _, _, _, _⟩ := h
    rfl
  · obtain ⟨p, Z, v, d, rfl, w, hd, qy, qn⟩ := h
    refine ⟨_, pss_one (ps_if (pt_not (pt_val (pe_fn ((ok_is_integer_in T).at hg (hr.mono (by decide)) (b_is_integer_in T) .nil passN) rfl T.g_is_integer_in T.F_is_integer_in.kp (pa_cons (pv 0) (pa_cons (pe_int) (pa_cons (pe_glob (v := (.int 40)) rfl T.c_MOST_CELLS ⟨_, rfl⟩) pa_nil)))))) (pss_one (ps_err (k := 0) rfl T.e_NoSize er_rel1 (hr.mono (by decide)) (takes_of rfl rfl rfl rfl) (pa_cons (pv 0) pa_nil) rfl)) pss_nil), ?_⟩
    try dsimp only [cxg, cxOf, Cx.nox, Cx.wish]
    wtm_at "v"
    refine ⟨p, Z, v, d, 1, 40, rfl, w, hd, ?_⟩
    wtm_at "v"
    refine ite_nb (fun h => ?_) (fun h => ?_)
    · wtm_at "v"
      exact ⟨rfl, fun b hb => qn h _ b (R.new hb) upd_same hb⟩
    · wtm_at "v"
      exact qy h
def sp_Board____init__ (K : PySem.W.Frag) (cl : Cl) : Sp := fun vs H Q E => ∃ p Z x dx v u d e H0, vs = [.ref x, v, u] ∧ H0 x = none ∧ H0 dx = none ∧ dx ≠ x ∧ H = upd (upd H0 dx (.own x)) x (.ins cl.Board dx []) ∧ Wd p Z H0 ∧ Dat K Z H0 d v ∧ Dat K Z H0 e u ∧ Tame e 40 1000 ∧
  (∀ (n : Nat) ns, d = .int n → 1 ≤ n → n ≤ 40 → cellsD e n = some ns → ∀ H', R p H0 H' → H' x = some (.ins cl.Board dx [("own_size", .int n), ("up_mask", .int (((maskI ns).toNat ||| 1 : Nat) : Int))]) → Q .non H') ∧
  (intIn d 1 40 = false → ∀ H' b, R p H0 H' → H' b = some (.xd [("value", v)]) → H0 b = none → E (.ref cl.NoSize) (some b) H') ∧
  (∀ n : Nat, d = .int n → 1 ≤ n → n ≤ 40 → cellsD e n = none → ∀ H' b, R p H0 H' → H' b = some (.xd [("cells", u)]) → H0 b = none → E (.ref cl.NoCells) (some b) H')
theorem ok_Board____init__ (T : Tx K mg cl) : FnG P w K mg base 5 T.a_Board____init__ T.fd_Board____init__ ["self", "size", "up"] (sp_Board____init__ K cl) := by
  refine FnG.okX T.F_Board____init__ sc_Board____init__ (fun vs H Q E h => ?_) (fun cdv A outer s H vs Q E hg hr h => ?_)
  · obtain ⟨_, _, _, _, _, _, _, _, _, rfl, _, _, _, rfl, _, _, _, _, _, _, _⟩ := h
    rfl
  · obtain ⟨p, Z, x, dx, v, u, d, e, H0, rfl, hx, hdx, dne, rfl, w, hd, he, t, qy, q1, q2⟩ := h
    refine ⟨_, pss_cons (ps_expr (pe_fnS ((ok_require_size T).atS hg (hr.mono (by decide)) (b_require_size T) .nil (takes_of rfl rfl rfl rfl)) rfl T.g_require_size T.F_require_size.kp (pa_cons (pv 1) pa_nil)))
    (pss_cons (ps_fldK (K := K) rfl (pv 0) (pv 1))
    (pss_one (ps_fldK (K := K) rfl (pv 0) (pe_op op_or (pe_fnS ((ok_cell_mask T).atS hg (hr.mono (by decide)) (b_cell_mask T) .nil (takes_of rfl rfl rfl rfl)) rfl T.g_cell_mask T.F_cell_mask.kp (pa_cons (pv 2) (pa_cons (pv 1) pa_nil))) (pe_int))))), ?_⟩
    try dsimp only [cxg, cxOf, Cx.nox, Cx.wish]
    have xp : x ≠ p := fun z => w.occ p w.mem (z ▸ hx)
    have r0 : R p H0 (upd (upd H0 dx (.own x)) x (.ins cl.Board dx [])) := (R.new hdx).over hx xp
    have x0 : (upd (upd H0 dx (.own x)) x (.ins cl.Board dx [])) x = some (.ins cl.Board dx []) := upd_same
    generalize upd (upd H0 dx (.own x)) x (.ins cl.Board dx []) = H1 at r0 x0
    have w1 := w.up r0
    have hd1 := hd.to w r0
    have free : ∀ {H' : Hp} {b : Addr}, R p H0 H' → H' b = none → H0 b = none := fun {H' b} r h =>
      R.free r (fun z => (w.up r).occ p w.mem (z ▸ h)) h
    wtm_at "v"
    refine ⟨p, Z, v, d, rfl, w1, hd1, fun hy => ?_, fun hn H' b r hb hbn => q1 hn H' b (r0.trans r) hb (free r0 hbn)⟩
    obtain ⟨i, rfl, i1, i40⟩ := intIn_int hy
    have ev := hd.int
    subst ev
    obtain ⟨n, rfl⟩ := Int.eq_ofNat_of_zero_le (show 0 ≤ i by omega)
    wtm_at "v"
    refine ⟨x, cl.Board, dx, [], rfl, x0, T.cls_Board, T.no_Board_own_size, by simp, ?_⟩
    have r2 : R p H0 (upd H1 x (.ins cl.Board dx [("own_size", .int (n : Int))])) := r0.over hx xp
    have x2 : (upd H1 x (.ins cl.Board dx [("own_size", .int (n : Int))])) x = some (.ins cl.Board dx [("own_size", .int (n : Int))]) := upd_same
    rw [show putF "own_size" (V.int (n : Int)) [] = [(("own_size" : Str), V.int (n : Int))] from rfl]
    generalize upd H1 x (.ins cl.Board dx [("own_size", .int (n : Int))]) = H2 at r2 x2
    have w2 := w.up r2
    have he2 := he.to w r2
    wtm_at "v"
    refine ⟨p, Z, u, e, n, rfl, w2, he2, t, by omega, fun ns hc H3 r3 => ?_, fun hc H' b r hb hbn => q2 n rfl (by omega) (by omega) hc H' b (r2.trans r) hb (free r2 hbn)⟩
    have x3 : H3 x = some (.ins cl.Board dx [("own_size", .int (n : Int))]) := r3.stay x _ (fun _ z => nomatch z) x2
    wtm_at "v"
    refine ⟨x, cl.Board, dx, _, rfl, x3, T.cls_Board, T.no_Board_up_mask, by simp, ?_⟩
    have eo : Builtin.bitOr (maskI ns) 1 = (((maskI ns).toNat ||| 1 : Nat) : Int) := bitOr_nn (maskI_nn ns) (by decide)
    rw [eo]
    exact qy n ns rfl (by omega) (by omega) hc _ ((r2.trans r3).over hx xp) upd_same
theorem init_ok {p n : Nat} {Z : List Addr} {H : Hp} {u : V} {e : PyData} {ns : List Int} {Q : VK} {E : XK} (w : Wd p Z H) (he : Dat K Z H e u) (te : Tame e 40 1000) (n1 : 1 ≤ n) (n40 : n ≤ 40)
    (hc : cellsD e n = some ns) (q : ∀ H' v, R p H H' → BoardAt cl H' v n ((maskI ns).toNat ||| 1) → Q v H') :
    ∀ x dx, H x = none → H dx = none → dx ≠ x → sp_Board____init__ K cl [.ref x, .int n, u] (upd (upd H dx (.own x)) x (.ins cl.Board dx [])) (fun v H2 => v = .non ∧ Q (.ref x) H2) E := by
  intro x dx hx hdx dne
  refine ⟨p, Z, x, dx, .int n, u, .int n, e, H, rfl, hx, hdx, dne, rfl, w, dat_int, he, te, ?_, ?_, ?_⟩
  · intro n' ns' en _ _ ec H2 r2 hx2
    have en' : n' = n := by
      have := PyData.int.inj en
      omega
    subst en'
    rw [hc] at ec
    obtain rfl := Option.some.inj ec
    obtain ⟨m1, m2⟩ := cells_range hc
    have nd : ns.Nodup := m2.imp fun h => by omega
    refine ⟨rfl, q H2 _ r2 ⟨⟨x, dx, rfl, hx2⟩, n1, n40, Nat.or_lt_two_pow (mask_lt m1 nd) (Nat.lt_of_lt_of_le (by decide) (Nat.pow_le_pow_right (by decide) n1)), by rw [Nat.testBit_or]; simp⟩⟩
  · intro e
    rw [intIn, Bool.and_eq_false_iff] at e
    rcases e with e | e <;> simp at e <;> omega
  · intro n' en _ _ ec
    have en' : n' = n := by
      have := PyData.int.inj en
      omega
    subst en'
    rw [hc] at ec
    cases ec
section
variable {p n : Nat} {Z : List Addr} {H : Hp} {u : V} {e : PyData} {ns : List Int} {Q : VK} {W : WX} {σ : L2.St}
theorem mkB_kw (w : Wd p Z H) (he : Dat K Z H e u) (te : Tame e 40 1000) (n1 : 1 ≤ n) (n40 : n ≤ 40)
    (hc : cellsD e n = some ns) (q : ∀ H' v, R p H H' → BoardAt cl H' v n ((maskI ns).toNat ||| 1) → Q v H') :
    mkSpK cl.Board (sp_Board____init__ K cl) (kwg 2 1 [0, 1, 2]) W σ [.int n] [u] H Q := init_ok w he te n1 n40 hc q
theorem mkB_kw2 (w : Wd p Z H) (he : Dat K Z H e u) (te : Tame e 40 1000) (n1 : 1 ≤ n) (n40 : n ≤ 40)
    (hc : cellsD e n = some ns) (q : ∀ H' v, R p H H' → BoardAt cl H' v n ((maskI ns).toNat ||| 1) → Q v H') :
    mkSpK cl.Board (sp_Board____init__ K cl) (kwg 1 2 [0, 1, 2]) W σ [] [.int n, u] H Q := init_ok w he te n1 n40 hc q
theorem mkB_bare {d : Addr} (hd : SqT K (fun _ => none) d []) (w : Wd p Z H) (n1 : 1 ≤ n) (n40 : n ≤ 40) (q : ∀ H' v, R p H H' → BoardAt cl H' v n 1 → Q v H') :
    mkSp cl.Board (sp_Board____init__ K cl) [.ref d] W σ [.int n] H Q :=
  init_ok w (dat_dflt hd) (by exact ⟨by decide +kernel, by decide +kernel, by decide +kernel, by decide +kernel, by decide +kernel⟩) n1 n40
    (cells_asc (ns := []) (fun _ h => by cases h) .nil).1 (fun H' v r B => q H' v r (by simpa [maskI] using B))
end
def sp_board_of (K : PySem.W.Frag) (cl : Cl) : Sp := fun vs H Q _ => ∃ p Z n m, vs = [.int (n : Nat), .int (m : Nat)] ∧ Wd p Z H ∧ 1 ≤ n ∧ n ≤ 40 ∧ m < 2 ^ n ∧ ∀ H' u, R p H H' → BoardAt cl H' u n (m ||| 1) → Q u H'
theorem ok_board_of (T : Tx K mg cl) : FnG P w K mg base 7 T.a_board_of T.fd_board_of ["size", "mask"] (sp_board_of K cl) := by
  refine FnG.ok T.F_board_of sc_board_of (fun vs H Q E h => ?_) (fun cdv A outer s H vs Q E hg hr h => ?_)
  · obtain ⟨_, _, _, _, rfl, _, _, _, _, _⟩ := h
    rfl
  · obtain ⟨p, Z, n, m, rfl, w, n1, n40, lt, q⟩ := h
    refine ⟨_, pss_one (ps_ret (pe_fnKS ((ok_Board____init__ T).makeK T.mk_Board hg (hr.mono (by decide)) (kb_Board____init____2_up T) takes0) rfl T.gc_Board T.mk_Board.kp (pa_cons (pv 0) pa_nil) (pk_cons (pe_fn ((ok_cells_in_cells T).at hg (hr.mono (by decide)) (b_cells_in_cells T) .nil passN) rfl T.g_cells_in_cells T.F_cells_in_cells.kp (pa_cons (pv 1) pa_nil)) pk_nil))), ?_⟩
    try dsimp only [cxg, cxOf, Cx.nox, Cx.wish]
    have m64 : m < 2 ^ 64 := Nat.lt_of_lt_of_le lt (Nat.pow_le_pow_right (by decide) (by omega))
    wtm_at "v"
    refine ⟨p, Z, m, rfl, w, m64, fun H1 t r1 h1 ht => ?_⟩
    have w1 := w.up r1
    wtm_at "v"
    intro x dx hx hdx dne
    refine ⟨p, Z, x, dx, .int n, .ref t, .int n, tupI (bitsL m), H1, rfl, hx, hdx, dne, rfl, w1, dat_int, dat_tup (w.ne ht) (.inl (.inl h1)) (datL_int _), (tame_bits m).mono (by decide) (by decide), ?_, ?_, ?_⟩
    · intro n' ns en _ _ ec H2 r2 hx2
      have en' : n' = n := by
        have := PyData.int.inj en
        omega
      subst en'
      rw [(cells_asc (fun n hn => bits_below lt hn) (bits_asc m)).1] at ec
      obtain rfl := Option.some.inj ec
      rw [mask_bits m64] at hx2
      refine ⟨rfl, q H2 _ (r1.trans r2) ⟨⟨x, dx, rfl, hx2⟩, n1, n40, Nat.or_lt_two_pow lt (Nat.lt_of_lt_of_le (by decide) (Nat.pow_le_pow_right (by decide) n1)), by rw [Nat.testBit_or]; simp⟩⟩
    · intro e
      rw [intIn, Bool.and_eq_false_iff] at e
      rcases e with e | e <;> simp at e <;> omega
    · intro n' en _ _ ec
      have en' : n' = n := by
        have := PyData.int.inj en
        omega
      subst en'
      rw [(cells_asc (fun n hn => bits_below lt hn) (bits_asc m)).1] at ec
      cases ec
def sp_mask_after (K : PySem.W.Frag) (cl : Cl) : Sp := fun vs H Q _ => ∃ v m t g, vs = [.int (m : Nat), v] ∧ FlipAt cl H v t g ∧ Q (.int (afterM m t g : Nat)) H
theorem ok_mask_after (T : Tx K mg cl) : FnG P w K mg base 2 T.a_mask_after T.fd_mask_after ["up_mask", "flip"] (sp_mask_after K cl) := by
  refine FnG.ok T.F_mask_after sc_mask_after (fun vs H Q E h => ?_) (fun cdv A outer s H vs Q E hg hr h => ?_)
  · obtain ⟨_, _, _, _, rfl, _, _⟩ := h
    rfl
  · obtain ⟨v, m, t, g, rfl, F, q⟩ := h
    refine ⟨_, pss_cons (ps_if (pt_val (pe_fn ((ok_is_odd_cells T).at hg (hr.mono (by decide)) (b_is_odd_cells T) .nil passN) rfl T.g_is_odd_cells T.F_is_odd_cells.kp (pa_cons (pe_op op_and (pv 0) (pe_fldK (K := K) rfl (pv 1))) pa_nil))) (pss_one (ps_ret (pe_op op_xor (pv 0) (pe_fldK (K := K) rfl (pv 1))))) pss_nil)
    (pss_one (ps_ret (pv 0))), ?_⟩
    try dsimp only [cxg, cxOf, Cx.nox, Cx.wish]
    obtain ⟨a, dx, rfl, e⟩ := F.ex
    wtm_at "v"
    wtm_at "fl"
    wtm_at "v"
    rw [and_nn]
    refine ⟨_, rfl, ?_⟩
    wtm_at "v"
    refine ite_b (fun h => ?_) (fun h => ?_)
    · wtm_at "v"
      wtm_at "fl"
      wtm_at "v"
      rw [xor_nn]
      rw [afterM, if_pos h] at q
      exact q
    · wtm_at "v"
      rw [afterM, if_neg (by rw [h]; decide)] at q
      exact q
def sp_apply_flip (K : PySem.W.Frag) (cl : Cl) : Sp := fun vs H Q E => ∃ p Z v n m f t g, vs = [v, f] ∧ Wd p Z H ∧ BoardAt cl H v n m ∧ FlipAt cl H f t g ∧ (widM t g ≤ n → ∀ H' u, R p H H' → BoardAt cl H' u n (afterM m t g) → Q u H') ∧
  (n < widM t g → ∀ H' b, R p H H' → H' b = some (.xd [("needed", .int (widM t g : Nat))]) → H b = none → E (.ref cl.TooWide) (some b) H')
theorem ok_apply_flip (T : Tx K mg cl) : FnG P w K mg base 8 T.a_apply_flip T.fd_apply_flip ["board", "flip"] (sp_apply_flip K cl) := by
  refine FnG.okX T.F_apply_flip sc_apply_flip (fun vs H Q E h => ?_) (fun cdv A outer s H vs Q E hg hr h => ?_)
  · obtain ⟨_, _, _, _, _, _, _, _, rfl, _, _, _, _, _⟩ := h
    rfl
  · obtain ⟨p, Z, v, n, m, f, t, g, rfl, w, B, F, qy, qn⟩ := h
    refine ⟨_, pss_cons (ps_expr (pe_fnS ((ok_require_fit T).atS hg (hr.mono (by decide)) (b_require_fit T) .nil (takes_of rfl rfl rfl rfl)) rfl T.g_require_fit T.F_require_fit.kp (pa_cons (pv 1) (pa_cons (pe_mS0 (CallR.S ((ok_Board__size T).at hg (hr.mono (by decide)) (b_Board__size T) .nil passN)) T.cls_Board T.m_Board__size (pv 0)) pa_nil))))
    (pss_one (ps_ret (pe_fn ((ok_board_of T).at hg (hr.mono (by decide)) (b_board_of T) .nil passN) rfl T.g_board_of T.F_board_of.kp (pa_cons (pe_mS0 (CallR.S ((ok_Board__size T).at hg (hr.mono (by decide)) (b_Board__size T) .nil passN)) T.cls_Board T.m_Board__size (pv 0)) (pa_cons (pe_fn ((ok_mask_after T).at hg (hr.mono (by decide)) (b_mask_after T) .nil passN) rfl T.g_mask_after T.F_mask_after.kp (pa_cons (pe_fldK (K := K) rfl (pv 0)) (pa_cons (pv 1) pa_nil))) pa_nil))))), ?_⟩
    try dsimp only [cxg, cxOf, Cx.nox, Cx.wish]
    obtain ⟨a, dx, rfl, e⟩ := B.ex
    obtain ⟨b, db, rfl, eb⟩ := F.ex
    wtm_at "v"
    wtm_at "me"
    refine ⟨_, n, m, rfl, B, ?_⟩
    wtm_at "v"
    refine ⟨p, Z, _, t, g, n, rfl, w, F, fun h => ?_, qn⟩
    wtm_at "v"
    wtm_at "me"
    refine ⟨_, n, m, rfl, B, ?_⟩
    wtm_at "v"
    wtm_at "fl"
    wtm_at "v"
    refine ⟨_, m, t, g, rfl, F, ?_⟩
    wtm_at "v"
    have lg := ((widM_le B.n1).mp h).2
    refine ⟨p, Z, n, _, rfl, w, B.n1, B.n40, afterM_lt B.lt lg, fun H1 u r1 B1 => qy h H1 u r1 ?_⟩
    rw [or_one (afterM_odd B.odd F.ok.fix)] at B1
    exact B1
def sp_apply_flips (K : PySem.W.Frag) (cl : Cl) : Sp := fun vs H Q E => ∃ p Z v n m a xs fl, vs = [v, .ref a] ∧ Wd p Z H ∧ BoardAt cl H v n m ∧ (SqL K H a xs ∨ SqT K H a xs) ∧ a ≠ p ∧ FlipsAt cl H xs fl ∧ xs.length ≤ 1000 ∧
  (wideF n fl = none → ∀ H' u, R p H H' → BoardAt cl H' u n (afterL m fl) → Q u H') ∧
  (∀ f, wideF n fl = some f → ∀ H' b, R p H H' → H' b = some (.xd [("needed", .int (widM f.1 f.2 : Nat))]) → H b = none → E (.ref cl.TooWide) (some b) H')
theorem ok_apply_flips (T : Tx K mg cl) : FnG P w K mg base 9 T.a_apply_flips T.fd_apply_flips ["board", "flips"] (sp_apply_flips K cl) := by
  refine FnG.okX T.F_apply_flips sc_apply_flips (fun vs H Q E h => ?_) (fun cdv A outer s H vs Q E hg hr h => ?_)
  · obtain ⟨_, _, _, _, _, _, _, _, rfl, _, _, _, _, _, _, _, _⟩ := h
    rfl
  · obtain ⟨p, Z, v, n, m, a, xs, fl, rfl, w, B, hs, np, hf, hl, qy, qn⟩ := h
    refine ⟨_, pss_cons (ps_set (i := 2) sc_apply_flips.nd rfl (by first | exact Or.inl rfl | exact Or.inr rfl) (pv 0))
    (pss_cons (ps_for (passes_of rfl) rfl (pi_seq (K := K) rfl (pv 1)) (pg_name (i := 3) sc_apply_flips.nd rfl (by first | exact Or.inl rfl | exact Or.inr rfl))
      (pss_one (ps_set (i := 2) sc_apply_flips.nd rfl (by first | exact Or.inl rfl | exact Or.inr rfl) (pe_fnS ((ok_apply_flip T).atS hg (hr.mono (by decide)) (b_apply_flip T) .nil (takes_of rfl rfl rfl rfl)) rfl T.g_apply_flip T.F_apply_flip.kp (pa_cons (pv 2) (pa_cons (pv 3) pa_nil))))))
    (pss_one (ps_ret (pv 2)))), ?_⟩
    try dsimp only [cxg, cxOf, Cx.nox, Cx.wish]
    wtm_at "v"
    refine s_iRaw rfl np hs (fun J G wk hG => ?_)
    refine s_forI wk (fun i σ H' => ∃ u y, σ = [some v, some (.ref a), some u, y] ∧ R p H H' ∧ BoardAt cl H' u n (afterL m (fl.take i)) ∧ wideF n (fl.take i) = none) ⟨v, _, rfl, R.refl _ _, B, rfl⟩ ?_ ?_ ?_
    · rintro i σ H' _ ⟨u, y, rfl, r, _⟩
      exact hG _ r
    · rintro i x σ H1 H2 hi ⟨u, y, rfl, r1, B1, e1⟩ ⟨rfl, hx⟩
      have hi2 : i < fl.length := by rw [← hf.1]; exact hi
      have F1 : FlipAt cl H2 x fl[i].1 fl[i].2 := (hf.2 i x _ hx (List.getElem?_eq_getElem hi2)).up r1
      have w1 := w.up r1
      have et : fl.take (i + 1) = fl.take i ++ [fl[i]] := by rw [List.take_add_one, List.getElem?_eq_getElem hi2]; rfl
      wtm_at "v"
      refine ⟨p, Z, u, n, _, x, _, _, rfl, w1, B1, F1, fun hw H3 u3 r3 B3 => ?_, fun hw H3 b r3 hb hbn => qn _ (take_wide (List.getElem?_eq_getElem hi2) e1 hw) H3 b (r1.trans r3) hb (w.old r1 hbn)⟩
      wtm_at "v"
      refine ⟨r1.trans r3, ?_, ?_⟩
      · rw [et, afterL, List.foldl_append]
        exact B3
      · rw [et]
        exact wide_snoc e1 hw
    · rintro σ H1 ⟨u, y, rfl, r1, B1, e1⟩
      rw [hf.1, List.take_length] at B1 e1
      wtm_at "v"
      exact qy e1 H1 u r1 B1
def sp__law_made (K : PySem.W.Frag) (cl : Cl) : Sp := fun vs H Q _ => ∃ p Z n m b, vs = [b] ∧ Wd p Z H ∧ 1 ≤ n ∧ n ≤ 40 ∧ m < 2 ^ n ∧ m.testBit 0 = true ∧ Dat K Z H (lstI (bitsOf n m)) b ∧ ∀ H' v, R p H H' → BoardAt cl H' v n m → Q v H'
theorem ok__law_made (T : Tx K mg cl) : FnG P w K mg base 7 T.a__law_made T.fd__law_made ["_law_bits_here"] (sp__law_made K cl) := by
  refine FnG.ok T.F__law_made sc__law_made (fun vs H Q E h => ?_) (fun cdv A outer s H vs Q E hg hr h => ?_)
  · obtain ⟨_, _, _, _, _, rfl, _, _, _, _, _, _, _⟩ := h
    rfl
  · obtain ⟨p, Z, n, m, b, rfl, w, n1, n40, lt, od, hb, q⟩ := h
    refine ⟨_, pss_one (ps_ret (pe_fnKS ((ok_Board____init__ T).makeK T.mk_Board hg (hr.mono (by decide)) (kb_Board____init____2_up T) takes0) rfl T.gc_Board T.mk_Board.kp (pa_cons (pe_callB (kx_len (K := K) rfl) (by rfl) T.z_len bt_len (pa_cons (pv 0) pa_nil)) pa_nil) (pk_cons (pe_fn ((ok__law_up T).at hg (hr.mono (by decide)) (b__law_up T) .nil passN) rfl T.g__law_up T.F__law_up.kp (pa_cons (pv 0) pa_nil)) pk_nil))), ?_⟩
    try dsimp only [cxg, cxOf, Cx.nox, Cx.wish]
    have m64 : m < 2 ^ 64 := Nat.lt_of_lt_of_le lt (Nat.pow_le_pow_right (by decide) (by omega))
    wtm_at "v"
    refine s_len_lst hb ?_
    rw [List.length_map, bitsOf_len]
    wtm_at "v"
    refine ⟨p, Z, n, m, _, rfl, w, hb, by omega, lt, fun H1 a1 r1 ha1 h1 => ?_⟩
    have w1 := w.up r1
    wtm_at "v"
    refine mkB_kw (e := lstI (bitsL m)) w1 (dat_lst (w.ne ha1) (.inl h1) (datL_int _)) ((tame_lstI (k := 64) (fun k hk => by have := bits_mem hk; omega) (bits_len m)).mono (by decide) (by decide)) n1 n40 (cells_asc (fun k hk => bits_below lt hk) (bits_asc m)).2 (fun H2 v2 r2 B2 => ?_)
    rw [mask_bits m64, or_one od] at B2
    exact q H2 v2 (r1.trans r2) B2
def sp__law_right (K : PySem.W.Frag) (cl : Cl) : Sp := fun vs H Q _ => ∃ p Z n ts gs ts' gs' u u' sv, ∃ ms : List Nat, vs = [u, u', sv] ∧ Wd p Z H ∧ 1 ≤ n ∧ n ≤ 40 ∧ PairOk n ts gs ∧ PairOk n ts' gs' ∧ Dat K Z H (pairD ts gs) u ∧ Dat K Z H (pairD ts' gs') u' ∧
  Dat K Z H (.list (ms.map fun m => lstI (bitsOf n m))) sv ∧ (∀ m ∈ ms, m < 2 ^ n ∧ m.testBit 0 = true) ∧ ms.length ≤ 5000 ∧ ∀ H', R p H H' → Q (.bl true) H'
theorem ok__law_right (T : Tx K mg cl) : FnG P w K mg base 10 T.a__law_right T.fd__law_right ["_law_pair_here", "_law_after_here", "_law_some"] (sp__law_right K cl) := by
  refine FnG.ok T.F__law_right sc__law_right (fun vs H Q E h => ?_) (fun cdv A outer s H vs Q E hg hr h => ?_)
  · obtain ⟨_, _, _, _, _, _, _, _, _, _, _, rfl, _, _, _, _, _, _, _, _, _, _, _⟩ := h
    rfl
  · obtain ⟨p, Z, n, ts, gs, ts', gs', u, u', sv, ms, rfl, w, n1, n40, ok, ok', hu, hu', hs, hm, hl, q⟩ := h
    refine ⟨_, pss_cons ((by first | exact ps_par (i := 3) (j := 4) (by rfl) sc__law_right.nd rfl rfl (by decide) rfl rfl (pa_cons (pe_fn ((ok__law_flip_of T).at hg (hr.mono (by decide)) (b__law_flip_of T) .nil passN) rfl T.g__law_flip_of T.F__law_flip_of.kp (pa_cons (pv 0) pa_nil)) (pa_cons (pe_fn ((ok__law_flip_of T).at hg (hr.mono (by decide)) (b__law_flip_of T) .nil passN) rfl T.g__law_flip_of T.F__law_flip_of.kp (pa_cons (pv 1) pa_nil)) pa_nil)) (by rfl) | exact ps_asg (pe_tup (pa_cons (pe_fn ((ok__law_flip_of T).at hg (hr.mono (by decide)) (b__law_flip_of T) .nil passN) rfl T.g__law_flip_of T.F__law_flip_of.kp (pa_cons (pv 0) pa_nil)) (pa_cons (pe_fn ((ok__law_flip_of T).at hg (hr.mono (by decide)) (b__law_flip_of T) .nil passN) rfl T.g__law_flip_of T.F__law_flip_of.kp (pa_cons (pv 1) pa_nil)) pa_nil))) (pg_tupK (K := K) rfl rfl (pgs_cons (pg_name (i := 3) sc__law_right.nd rfl (by first | exact Or.inl rfl | exact Or.inr rfl)) (pgs_cons (pg_name (i := 4) sc__law_right.nd rfl (by first | exact Or.inl rfl | exact Or.inr rfl)) pgs_nil)))))
    (pss_cons (ps_set (i := 5) sc__law_right.nd rfl (by first | exact Or.inl rfl | exact Or.inr rfl) (pe_fn ((ok__law_pair_past T).at hg (hr.mono (by decide)) (b__law_pair_past T) .nil passN) rfl T.g__law_pair_past T.F__law_pair_past.kp (pa_cons (pv 0) (pa_cons (pv 1) pa_nil))))
    (pss_cons (ps_if (pt_cmpR (kx_ne (K := K) rfl hr) (pe_lst (pa_cons (pe_callTy (call_strI (ok_Flip____str__ T) T.m_Flip____str__.at_ T.m_Flip____str__.fn hg (hr.mono (by decide)) (b_Flip____str__ T)) (by rfl) T.z_str bt_str (pa_cons (pv 3) pa_nil)) (pa_cons (pe_callB (call_reprI (ok_Flip____repr__ T) T.m_Flip____repr__.at_ T.m_Flip____repr__.fn hg (hr.mono (by decide)) (b_Flip____repr__ T)) (by rfl) T.z_repr bt_repr (pa_cons (pv 3) pa_nil)) pa_nil))) (pe_fn ((ok__law_written T).at hg (hr.mono (by decide)) (b__law_written T) .nil passN) rfl T.g__law_written T.F__law_written.kp (pa_cons (pv 0) pa_nil)) (nomark _)) (pss_one (ps_ret (pe_bl))) pss_nil)
    (pss_cons (ps_set (i := 6) sc__law_right.nd rfl (by first | exact Or.inl rfl | exact Or.inr rfl) (pe_fn ((ok_moved_past T).at hg (hr.mono (by decide)) (b_moved_past T) .nil passN) rfl T.g_moved_past T.F_moved_past.kp (pa_cons (pv 3) (pa_cons (pv 4) pa_nil))))
    (pss_cons (ps_if (PW.pt (pw_or (pt_not (pt_val (pe_fn ((ok__law_is_pair T).at hg (hr.mono (by decide)) (b__law_is_pair T) .nil passN) rfl T.g__law_is_pair T.F__law_is_pair.kp (pa_cons (pv 6) (pa_cons (pv 5) pa_nil))))) (pw_or1 (pt_cmpR (op_neI (ok_Flip____eq__ T) T.eq_Flip T.ty_Flip hg (hr.mono (by decide)) (b_Flip____eq__ T)) (pe_fnK0 ((ok_moved_past T).atK hg (hr.mono (by decide)) (kb_moved_past__0_later_flip T) passN) rfl T.g_moved_past T.F_moved_past.kp (pk_cons (pv 4) (pk_cons (pv 3) pk_nil))) (pv 6) (nomark _))))) (pss_one (ps_ret (pe_bl))) pss_nil)
    (pss_cons (ps_if (pt_cmpR (kx_ne (K := K) rfl hr) (pe_lst (pa_cons (pe_callTy (call_strI (ok_Flip____str__ T) T.m_Flip____str__.at_ T.m_Flip____str__.fn hg (hr.mono (by decide)) (b_Flip____str__ T)) (by rfl) T.z_str bt_str (pa_cons (pv 6) pa_nil)) (pa_cons (pe_callB (call_reprI (ok_Flip____repr__ T) T.m_Flip____repr__.at_ T.m_Flip____repr__.fn hg (hr.mono (by decide)) (b_Flip____repr__ T)) (by rfl) T.z_repr bt_repr (pa_cons (pv 6) pa_nil)) (pa_cons (pe_callTy (call_strI (ok_Flip____str__ T) T.m_Flip____str__.at_ T.m_Flip____str__.fn hg (hr.mono (by decide)) (b_Flip____str__ T)) (by rfl) T.z_str bt_str (pa_cons (pv 3) pa_nil)) pa_nil)))) (pe_op (kx_add (K := K) rfl) (pe_fn ((ok__law_written T).at hg (hr.mono (by decide)) (b__law_written T) .nil passN) rfl T.g__law_written T.F__law_written.kp (pa_cons (pv 5) pa_nil)) (pe_lst (pa_cons (pe_fn ((ok__law_pair_text T).at hg (hr.mono (by decide)) (b__law_pair_text T) .nil passN) rfl T.g__law_pair_text T.F__law_pair_text.kp (pa_cons (pv 0) pa_nil)) pa_nil))) (nomark _)) (pss_one (ps_ret (pe_bl))) pss_nil)
    (pss_cons (ps_if (PW.pt (pw_or (pt_not (pt_val (pe_fn ((ok__law_is_pair T).at hg (hr.mono (by decide)) (b__law_is_pair T) .nil passN) rfl T.g__law_is_pair T.F__law_is_pair.kp (pa_cons (pv 3) (pa_cons (pv 0) pa_nil))))) (pw_or1 (pt_not (pt_val (pe_fn ((ok__law_is_pair T).at hg (hr.mono (by decide)) (b__law_is_pair T) .nil passN) rfl T.g__law_is_pair T.F__law_is_pair.kp (pa_cons (pv 4) (pa_cons (pv 1) pa_nil)))))))) (pss_one (ps_ret (pe_bl))) pss_nil)
    (pss_cons (ps_for PassesOwn.never rfl (pi_list (pv 2)) (pg_name (i := 7) sc__law_right.nd rfl (by first | exact Or.inl rfl | exact Or.inr rfl))
      (pss_cons (ps_set (i := 8) sc__law_right.nd rfl (by first | exact Or.inl rfl | exact Or.inr rfl) (pe_fn ((ok__law_after_all T).at hg (hr.mono (by decide)) (b__law_after_all T) .nil passN) rfl T.g__law_after_all T.F__law_after_all.kp (pa_cons (pv 7) (pa_cons (pe_lst (pa_cons (pv 0) (pa_cons (pv 1) pa_nil))) pa_nil))))
    (pss_one (ps_if (pt_not (pt_val (pe_fn ((ok__law_is_so T).at hg (hr.mono (by decide)) (b__law_is_so T) .nil passN) rfl T.g__law_is_so T.F__law_is_so.kp (pa_cons (pe_fnS ((ok_apply_flips T).atS hg (hr.mono (by decide)) (b_apply_flips T) .nil takes0) rfl T.g_apply_flips T.F_apply_flips.kp (pa_cons (pe_fn ((ok__law_made T).at hg (hr.mono (by decide)) (b__law_made T) .nil passN) rfl T.g__law_made T.F__law_made.kp (pa_cons (pv 7) pa_nil)) (pa_cons (pe_lst (pa_cons (pv 4) (pa_cons (pv 6) pa_nil))) pa_nil))) (pa_cons (pv 8) pa_nil))))) (pss_one (ps_ret (pe_bl))) pss_nil))))
    (pss_one (ps_ret (pe_bl)))))))))), ?_⟩
    try dsimp only [cxg, cxOf, Cx.nox, Cx.wish]
    have lt := ok.tl
    have lg := ok.gl
    have lt' := ok'.tl
    have lg' := ok'.gl
    have wd := ok.wid n1
    have wd' := ok'.wid n1
    have bt := bits_self (fun t h => by have := ok.tr t h; omega) ok.ta
    have bg := bits_self (fun t h => by have := ok.gr t h; omega) ok.ga
    have st : ∀ k ∈ ts, k.natAbs < 2 ^ 250 := fun k h => by have := ok.tr k h; omega
    have sg : ∀ k ∈ gs, k.natAbs < 2 ^ 250 := fun k h => by have := ok.gr k h; omega
    have om := moved_ok ok ok' n40
    have fl := ok.flip n40
    have fl' := ok'.flip n40
    have lT : pastM (maskI ts).toNat (maskI ts').toNat (maskI gs').toNat < 2 ^ 64 := Nat.lt_of_lt_of_le (pastM_lt fl.lt fl'.lt) (by decide)
    have lG : pastM (maskI gs).toNat (maskI gs').toNat (maskI ts').toNat < 2 ^ 64 := Nat.lt_of_lt_of_le (pastM_lt fl.lg fl'.lg) (by decide)
    have ma : ∀ m, afterM (afterM m (maskI ts').toNat (maskI gs').toNat) (pastM (maskI ts).toNat (maskI ts').toNat (maskI gs').toNat) (pastM (maskI gs).toNat (maskI gs').toNat (maskI ts').toNat) =
        afterM (afterM m (maskI ts).toNat (maskI gs).toNat) (maskI ts').toNat (maskI gs').toNat := fun m => moved_after fl'.ev
    wtm_at "v"
    refine ⟨p, Z, n, ts, gs, u, rfl, w, ok, n40, hu, fun H1 v1 r1 F1 => ?_⟩
    wtm_at "v"
    refine ⟨p, Z, n, ts', gs', u', rfl, by wtm_at "w", ok', n40, by wtm_at "d", fun H2 v2 r2 F2 => ?_⟩
    have w2 : Wd p Z H2 := by wtm_at "w"
    have F1' : FlipAt cl H2 v1 (maskI ts).toNat (maskI gs).toNat := by wtm_at "f"
    wtm_at "v"
    refine ⟨p, Z, n, ts, gs, ts', gs', u, u', rfl, w2, ok, ok', n40, by wtm_at "d", by wtm_at "d", fun H3 v3 r3 h3 => ?_⟩
    have w3 := w2.up r3
    generalize hTT : pastM (maskI ts).toNat (maskI ts').toNat (maskI gs').toNat = T at *
    generalize hGG : pastM (maskI gs).toNat (maskI gs').toNat (maskI ts').toNat = G at *
    have F3 : FlipAt cl H3 v1 (maskI ts).toNat (maskI gs).toNat := F1'.up r3
    obtain ⟨f1, dx1, rfl, ef1⟩ := F3.ex
    wtm_at "v"
    refine ⟨f1, dx1, _, rfl, ef1, ?_⟩
    refine ⟨p, Z, _, _, _, rfl, w3, F3, fun H4 r4 => ⟨_, rfl, ?_⟩⟩
    rw [bt, bg]
    have w4 := w3.up r4
    wtm_at "v"
    refine ⟨f1, dx1, _, rfl, by wtm_at "i", ?_⟩
    refine ⟨p, Z, _, _, _, rfl, w4, by wtm_at "f", fun H5 r5 => ⟨_, rfl, ?_⟩⟩
    rw [bt, bg]
    have w5 := w4.up r5
    wtm_at "v"
    refine s_newl K w5 (datL_cons dat_str (datL_cons dat_str datL_nil)) (by simp) (fun H6 v6 r6 h6 => ?_)
    have w6 := w5.up r6
    wtm_at "v"
    refine ⟨p, Z, u, ts, gs, rfl, w6, by wtm_at "d", by omega, by omega, st, sg, fun H7 v7 r7 h7 => ?_⟩
    have w7 := w6.up r7
    have wt := written_tame (by omega) (by omega) st sg
    refine s_ne_self (Z := Z) (d := .list [.str (pairText ts gs), .str (pairRepr ts gs)]) w7.one (by wtm_at "d") h7 (tame_lst wt) (by decide) rfl ?_
    wtm_at "v"
    refine ⟨p, Z, _, _, _, _, _, _, rfl, w7, by wtm_at "f", by wtm_at "f", fun H8 v8 r8 F8 => ?_⟩
    rw [hTT, hGG] at F8
    have w8 := w7.up r8
    obtain ⟨f8, dx8, rfl, ef8⟩ := F8.ex
    have F8' : FlipAt cl H8 (.ref f8) (maskI (bitsL T)).toNat (maskI (bitsL G)).toNat := by rw [mask_bits lT, mask_bits lG]; exact F8
    wtm_at "v"
    refine ⟨p, Z, n, _, _, _, _, rfl, w8, om, n1, n40, F8', by wtm_at "d", fun H9 r9 => ?_⟩
    have w9 := w8.up r9
    wtm_at "v"
    refine ⟨p, Z, _, _, _, _, _, _, rfl, w9, by wtm_at "f", by wtm_at "f", fun H10 v10 r10 F10 => ?_⟩
    rw [hTT, hGG] at F10
    have w10 := w9.up r10
    obtain ⟨f10, dx10, rfl, ef10⟩ := F10.ex
    wtm_at "v"
    refine ⟨f10, f8, _, _, _, _, rfl, rfl, ef10, by wtm_at "i", ?_⟩
    refine ⟨_, _, T, G, T, G, rfl, F10, by wtm_at "f", ⟨_, rfl, ?_⟩⟩
    rw [decide_eq_true rfl, decide_eq_true rfl]
    refine ⟨false, rfl, ?_⟩
    rw [if_neg (by decide)]
    wtm_at "v"
    refine ⟨f8, dx8, _, rfl, by wtm_at "i", ?_⟩
    refine ⟨p, Z, _, T, G, rfl, w10, by wtm_at "f", fun H11 r11 => ⟨_, rfl, ?_⟩⟩
    have w11 := w10.up r11
    wtm_at "v"
    refine ⟨f8, dx8, _, rfl, by wtm_at "i", ?_⟩
    refine ⟨p, Z, _, T, G, rfl, w11, by wtm_at "f", fun H12 r12 => ⟨_, rfl, ?_⟩⟩
    have w12 := w11.up r12
    wtm_at "v"
    refine ⟨f1, dx1, _, rfl, by wtm_at "i", ?_⟩
    refine ⟨p, Z, _, _, _, rfl, w12, by wtm_at "f", fun H13 r13 => ⟨_, rfl, ?_⟩⟩
    rw [bt, bg]
    have w13 := w12.up r13
    wtm_at "v"
    refine s_newl K w13 (datL_cons dat_str (datL_cons dat_str (datL_cons dat_str datL_nil))) (by simp) (fun H14 v14 r14 h14 => ?_)
    have w14 := w13.up r14
    wtm_at "v"
    refine ⟨p, Z, v3, bitsL T, bitsL G, rfl, w14, by wtm_at "d", bits_len T, bits_len G, bits_small, bits_small, fun H15 v15 r15 h15 => ?_⟩
    have w15 := w14.up r15
    wtm_at "v"
    refine ⟨p, Z, u, ts, gs, rfl, w15, by wtm_at "d", by omega, by omega, st, sg, fun H16 r16 => ?_⟩
    have w16 := w15.up r16
    wtm_at "v"
    refine s_newl K w16 (datL_cons dat_str datL_nil) (by simp) (fun H17 v17 r17 h17 => ?_)
    have w17 := w16.up r17
    wtm_at "v"
    refine s_add_lst (ds := [.str (pairText (bitsL T) (bitsL G)), .str (pairRepr (bitsL T) (bitsL G))]) w17 (by wtm_at "d") h17 (by simp; decide) (fun H18 v18 r18 h18 => ?_)
    have w18 := w17.up r18
    refine s_ne_self (Z := Z) (d := .list ([.str (pairText (bitsL T) (bitsL G)), .str (pairRepr (bitsL T) (bitsL G))] ++ [.str (pairText ts gs)])) w18.one (by wtm_at "d") h18 (tame3 (bits_len T) (bits_len G) bits_small bits_small (by omega) (by omega) st sg) (by decide) rfl ?_
    wtm_at "v"
    refine ⟨p, Z, n, ts, gs, _, _, rfl, w18, ok, n1, n40, by wtm_at "f", by wtm_at "d", fun H19 r19 => ?_⟩
    have w19 := w18.up r19
    wtm_at "v"
    refine ⟨p, Z, n, ts', gs', _, _, rfl, w19, ok', n1, n40, by wtm_at "f", by wtm_at "d", fun H20 r20 => ?_⟩
    have w20 := w19.up r20
    wtm_at "v"
    have hms : Dat K Z H20 (.list (ms.map fun m => lstI (bitsOf n m))) sv := by wtm_at "d"
    have hu20 : Dat K Z H20 (pairD ts gs) u := by wtm_at "d"
    have hu20' : Dat K Z H20 (pairD ts' gs') u' := by wtm_at "d"
    have F20 : FlipAt cl H20 v2 (maskI ts').toNat (maskI gs').toNat := by wtm_at "f"
    have F20m : FlipAt cl H20 (.ref f8) T G := by wtm_at "f"
    have r020 : R p H H20 := by wtm_at "r"
    refine s_iLF w20 hms (fun J Gg xs wk hG dl => ?_)
    refine s_forI wk (fun i σ H' => (∃ y9 y10, σ = [some u, some u', some sv, some (.ref f1), some v2, some v3, some (.ref f8), y9, y10]) ∧ R p H20 H') ⟨⟨_, _, rfl⟩, R.refl _ _⟩ ?_ ?_ ?_
    · rintro i σ H' _ ⟨_, r⟩
      exact hG _ r
    · rintro i x σ H21 H22 hi ⟨⟨y9, y10, rfl⟩, r21⟩ ⟨rfl, hx⟩
      rw [List.length_map] at hi
      have dx := dl.at (i := i) (d := lstI (bitsOf n ms[i])) (by simp [hi]) hx
      obtain ⟨lm, od⟩ := hm ms[i] (List.getElem_mem hi)
      generalize ms[i] = m at dx lm od
      have w21 := w20.up r21
      have ww := (widM_le n1).mp wd'
      have wm : widM T G ≤ n := by have := om.wid n1; rw [mask_bits lT, mask_bits lG] at this; exact this
      wtm_at "v"
      refine s_newl K w21 (datL_cons (d := pairD ts gs) (by wtm_at "d") (datL_cons (d := pairD ts' gs') (by wtm_at "d") datL_nil)) (by simp) (fun H23 v23 r23 h23 => ?_)
      have w23 := w21.up r23
      refine ⟨p, Z, n, m, x, v23, [(ts, gs), (ts', gs')], rfl, w23, n40, by wtm_at "d", h23, (fun q hq => by
        simp only [List.mem_cons, List.not_mem_nil, or_false] at hq
        rcases hq with rfl | rfl
        · exact ok
        · exact ok'), by simp, fun H24 v24 r24 h24 => ?_⟩
      have w24 := w23.up r24
      wtm_at "v"
      refine ⟨p, Z, n, m, x, rfl, w24, n1, n40, lm, od, by wtm_at "d", fun H25 v25 r25 B25 => ?_⟩
      have w25 := w24.up r25
      wtm_at "v"
      refine ⟨by simp; decide, fun l hl26 => ?_⟩
      have r26 : R p H25 (upd H25 l (.lst [v2, .ref f8])) := R.new hl26
      have h26 : (upd H25 l (.lst [v2, .ref f8])) l = some (.lst [v2, .ref f8]) := upd_same
      generalize upd H25 l (.lst [v2, .ref f8]) = H26 at r26 h26
      have w26 := w25.up r26
      have Fa : FlipAt cl H26 v2 (maskI ts').toNat (maskI gs').toNat := by wtm_at "f"
      have Fb : FlipAt cl H26 (.ref f8) T G := by wtm_at "f"
      have wn : wideF n [((maskI ts').toNat, (maskI gs').toNat), (T, G)] = none := by
        unfold wideF
        rw [List.find?_cons, decide_eq_false (by simpa using wd'), List.find?_cons, decide_eq_false (by simpa using wm)]
        rfl
      wtm_at "v"
      refine ⟨p, Z, v25, n, m, l, [v2, .ref f8], [((maskI ts').toNat, (maskI gs').toNat), (T, G)], rfl, w26, by wtm_at "b", .inl (.inl (.inl h26)), (fun z => w25.occ p w25.mem (z ▸ hl26)), FlipsAt.cons Fa (FlipsAt.cons Fb FlipsAt.nil), by simp, fun _ H27 v27 r27 B27 => ?_, fun f e => by rw [wn] at e; cases e⟩
      have B27' : BoardAt cl H27 v27 n (afterM (afterM m (maskI ts).toNat (maskI gs).toNat) (maskI ts').toNat (maskI gs').toNat) := by
        rw [← ma m]
        exact B27
      wtm_at "v"
      refine ⟨p, Z, n, _, _, v24, rfl, w26.up r27, B27', by wtm_at "d", fun H28 r28 => ?_⟩
      wtm_at "v"
      exact ⟨⟨_, _, rfl⟩, r21.trans (r23.trans (r24.trans (r25.trans (r26.trans (r27.trans r28)))))⟩
    · rintro σ H21 ⟨⟨y9, y10, rfl⟩, r21⟩
      wtm_at "v"
      exact q _ (r020.trans r21)
def sp_law (K : PySem.W.Frag) : Sp := fun vs H Q _ => ∃ (a : Addr) (ns : List Int), vs = [.ref a] ∧ One H ∧ SqL K H a (ns.map V.int) ∧ ns.length ≤ 63 ∧ ∀ H', Q (.bl true) H'
theorem ok_law (T : Tx K mg cl) : FnG P w K mg base 11 T.a_law T.fd_law ["_law_script"] (sp_law K) := by
  refine FnG.ok T.F_law sc_law (fun vs H Q E h => ?_) (fun cdv A outer s H vs Q E hg hr h => ?_)
  · obtain ⟨_, _, rfl, _, _, _, _⟩ := h
    rfl
  · obtain ⟨a, ns, rfl, o1, hS, hlen, q⟩ := h
    refine ⟨_, pss_cons (ps_for PassesOwn.never rfl (pi_range1 rfl T.z_range (pa_cons (pe_callB (call_max2 rfl) (by rfl) T.z_max bt_max (pa_cons (pe_int) (pa_cons (pe_callB (call_min2 rfl) (by rfl) T.z_min bt_min (pa_cons (pe_callB (kx_len (K := K) rfl) (by rfl) T.z_len bt_len (pa_cons (pv 0) pa_nil)) (pa_cons (pe_int) pa_nil))) pa_nil))) pa_nil)) (pg_name (i := 1) sc_law.nd rfl (by first | exact Or.inl rfl | exact Or.inr rfl))
      (pss_cons (ps_set (i := 2) sc_law.nd rfl (by first | exact Or.inl rfl | exact Or.inr rfl) (pe_fn ((ok__law_pot T).at hg (hr.mono (by decide)) (b__law_pot T) .nil passN) rfl T.g__law_pot T.F__law_pot.kp (pa_cons (pv 0) (pa_cons (pv 1) pa_nil))))
    (pss_cons (ps_set (i := 3) sc_law.nd rfl (by first | exact Or.inl rfl | exact Or.inr rfl) (pe_fn ((ok__law_width T).at hg (hr.mono (by decide)) (b__law_width T) .nil passN) rfl T.g__law_width T.F__law_width.kp (pa_cons (pv 2) (pa_cons (pe_ix (kx_ix (K := K) rfl) (pe_lst (pa_cons (pe_int) (pa_cons (pe_int) pa_nil))) (pe_fn ((ok__law_draw T).at hg (hr.mono (by decide)) (b__law_draw T) .nil passN) rfl T.g__law_draw T.F__law_draw.kp (pa_cons (pv 2) (pa_cons (pe_int) pa_nil))) (fun _ _ => rfl)) pa_nil))))
    (pss_cons (ps_set (i := 4) sc_law.nd rfl (by first | exact Or.inl rfl | exact Or.inr rfl) (pe_j (pe_ifExp (pt_cmpR op_lt (pv 3) (pe_int) (nomark _)) (pe_fn ((ok__law_all_bits T).at hg (hr.mono (by decide)) (b__law_all_bits T) .nil passN) rfl T.g__law_all_bits T.F__law_all_bits.kp (pa_cons (pv 3) pa_nil)) (pe_lc (own := [("_law_turn", 5)]) (g := gName 5) (tt := tYes)  rfl sc_law.nd (pi_range1 rfl T.z_range (pa_cons (pe_int) pa_nil)) (blkOk_by (own := [("_law_turn", 5)]) (N := N_law) (sc := defScope st_law) (by decide +kernel)) (fun _ _ _ _ _ => pg_name (i := 5) sc_law.nd rfl (by first | exact Or.inl rfl | exact Or.inr rfl)) (fun _ _ _ _ _ => pts_nil) (fun _ _ _ _ _ => pe_fn ((ok__law_bits T).at hg (hr.mono (by decide)) (b__law_bits T) .nil passN) rfl T.g__law_bits T.F__law_bits.kp (pa_cons (pv 2) (pa_cons (pv 3) pa_nil)))))))
    (pss_one (ps_for PassesOwn.never rfl (pi_range1 rfl T.z_range (pa_cons (pe_int) pa_nil)) (pg_name (i := 5) sc_law.nd rfl (by first | exact Or.inl rfl | exact Or.inr rfl))
      (pss_cons ((by first | exact ps_par (i := 6) (j := 7) (by rfl) sc_law.nd rfl rfl (by decide) rfl rfl (pa_cons (pe_fn ((ok__law_pair T).at hg (hr.mono (by decide)) (b__law_pair T) .nil passN) rfl T.g__law_pair T.F__law_pair.kp (pa_cons (pv 2) (pa_cons (pv 3) pa_nil))) (pa_cons (pe_fn ((ok__law_pair T).at hg (hr.mono (by decide)) (b__law_pair T) .nil passN) rfl T.g__law_pair T.F__law_pair.kp (pa_cons (pv 2) (pa_cons (pv 3) pa_nil))) pa_nil)) (by rfl) | exact ps_asg (pe_tup (pa_cons (pe_fn ((ok__law_pair T).at hg (hr.mono (by decide)) (b__law_pair T) .nil passN) rfl T.g__law_pair T.F__law_pair.kp (pa_cons (pv 2) (pa_cons (pv 3) pa_nil))) (pa_cons (pe_fn ((ok__law_pair T).at hg (hr.mono (by decide)) (b__law_pair T) .nil passN) rfl T.g__law_pair T.F__law_pair.kp (pa_cons (pv 2) (pa_cons (pv 3) pa_nil))) pa_nil))) (pg_tupK (K := K) rfl rfl (pgs_cons (pg_name (i := 6) sc_law.nd rfl (by first | exact Or.inl rfl | exact Or.inr rfl)) (pgs_cons (pg_name (i := 7) sc_law.nd rfl (by first | exact Or.inl rfl | exact Or.inr rfl)) pgs_nil)))))
    (pss_consJ (ps_if (pt_cmpR (kx_eq (K := K) rfl hr) (pe_fn ((ok__law_draw T).at hg (hr.mono (by decide)) (b__law_draw T) .nil passN) rfl T.g__law_draw T.F__law_draw.kp (pa_cons (pv 2) (pa_cons (pe_int) pa_nil))) (pe_int) (nomark _)) (pss_one (ps_set (i := 7) sc_law.nd rfl (by first | exact Or.inl rfl | exact Or.inr rfl) (pv 6))) pss_nil)
    (pss_one (ps_if (pt_not (pt_val (pe_fn ((ok__law_right T).at hg (hr.mono (by decide)) (b__law_right T) .nil passN) rfl T.g__law_right T.F__law_right.kp (pa_cons (pv 6) (pa_cons (pv 7) (pa_cons (pv 4) pa_nil)))))) (pss_one (ps_ret (pe_bl))) pss_nil))))))))))
    (pss_one (ps_ret (pe_bl))), ?_⟩
    try dsimp only [cxg, cxOf, Cx.nox, Cx.wish]
    wtm_at "v"
    refine .inl ⟨a, _, rfl, .inl hS, ?_⟩
    rw [List.length_map]
    wtm_at "v"
    generalize hn : (if (if (4 : Int) < (ns.length : Int) then (4 : Int) else (ns.length : Int)) > 1 then (if (4 : Int) < (ns.length : Int) then (4 : Int) else (ns.length : Int)) else (1 : Int)) = k
    have k6 : k ≤ 6 := by rw [← hn]; split <;> split <;> omega
    have k0 : 0 ≤ k := by rw [← hn]; split <;> split <;> omega
    refine ⟨by omega, by omega, ?_⟩
    refine s_forI walk_r0 (fun i σ H' => ∃ y1 y2 y3 y4 y5 y6 y7, σ = [some (.ref a), y1, y2, y3, y4, y5, y6, y7] ∧ Same H H')
      ⟨_, _, _, _, _, _, _, rfl, fun _ _ h => h⟩ (fun _ _ _ _ _ => trivial) ?_ ?_
    · rintro i x σ H1 H2 hi ⟨y1, y2, y3, y4, y5, y6, y7, rfl, s1⟩ ⟨rfl, rfl⟩
      wtm_at "v"
      refine ⟨a, ns, i, rfl, s1.seq hS, by omega, fun H3 p s3 hp0 hp => ?_⟩
      have o3 : One H3 := (R.of_same (p := p) (s1.trans s3)).one o1
      have w3 := wd_pot o3 hp
      wtm_at "v"
      refine s_newl K w3 (datL_cons dat_int (datL_cons dat_int datL_nil)) (by simp) (fun H5 v5 r5 h5 => ?_)
      have w5 := w3.up r5
      wtm_at "v"
      wtm_at "dr"
      intro H4 d4 r4 a4 b4
      have w4 := w5.up r4
      refine s_pick (Z := [p]) (ds := [.int 7, .int 40]) (by wtm_at "d") a4 (by simpa using b4) (fun v6 d6 e6 h6 => ?_)
      obtain ⟨mo, rfl, mo1, mo40⟩ : ∃ mo : Int, d6 = .int mo ∧ 1 ≤ mo ∧ mo ≤ 40 := by
        simp only [List.mem_cons, List.not_mem_nil, or_false] at e6
        rcases e6 with rfl | rfl
        · exact ⟨7, rfl, by decide, by decide⟩
        · exact ⟨40, rfl, by decide, by decide⟩
      have ev := h6.int
      subst ev
      refine ⟨p, [p], mo, rfl, w4, by wtm_at "p", mo1, by omega, fun H6 n r6 n1 nm => ?_⟩
      have w6 := w4.up r6
      have n40 : n ≤ 40 := by omega
      wtm_at "v"
      refine s_j (fun v H' => R p H6 H' ∧ ∃ ms : List Nat, Dat K [p] H' (.list (ms.map fun m => lstI (bitsOf n m))) v ∧ (∀ m ∈ ms, m < 2 ^ n ∧ m.testBit 0 = true) ∧ ms.length ≤ 5000) ?_ ?_
      · wtm_at "v"
        refine ite_d (fun ha => ?_) (fun ha => ?_)
        · have n7 : n ≤ 7 := by omega
          wtm_at "v"
          refine ⟨p, [p], n, rfl, w6, n1, by omega, fun H7 v7 r7 h7 => ?_⟩
          rw [allBitsD_ms] at h7
          exact ⟨r7, _, h7, ex_odd n1, by rw [List.length_map, List.length_range]; exact pow_small n7⟩
        · wtm_at "v"
          refine ⟨by decide, by decide, ?_⟩
          refine s_lc (K := K) walk_r0 (sl_lt (by decide)) w6 (fun i ds => ∃ ms : List Nat, ms.length = i ∧ ds = ms.map (fun m => lstI (bitsOf n m)) ∧ ∀ m ∈ ms, m < 2 ^ n ∧ m.testBit 0 = true) ⟨[], rfl, rfl, fun m h => by cases h⟩ (fun _ _ => trivial) ?_ ?_
          · rintro D j x H7 H8 ds hD nz hj ⟨ms, lm, rfl, hm⟩ _ r7 w' ⟨rfl, rfl⟩ F N hF hN
            wtm_at "v"
            refine ⟨rfl, ?_⟩
            wtm_at "v"
            refine ⟨p, [D, p], n, rfl, w', by wtm_at "p", n1, by omega, fun H9 v9 m r9 lt od h9 => ?_⟩
            refine hF _ _ _ r9 h9 ⟨ms ++ [m], by simp [lm], by simp, fun k hk => ?_⟩
            rcases List.mem_append.mp hk with hk | hk
            · exact hm k hk
            · obtain rfl := List.mem_singleton.mp hk
              exact ⟨lt, od⟩
          · rintro H7 v7 ds r7 ⟨ms, lm, rfl, hm⟩ _ h7
            exact ⟨r7, ms, h7, hm, by rw [lm]; decide⟩
      · rintro sv H7 ⟨r7, ms, hs, hm, hl⟩
        wtm_at "v"
        refine ⟨by decide, by decide, ?_⟩
        refine s_forI walk_r0 (fun j σ H' => (∃ y6 y7 y8, σ = [some (.ref a), some (.int (i : Nat)), some (.ref p), some (.int (n : Nat)), some sv, y6, y7, y8]) ∧ R p H7 H') ⟨⟨_, _, _, rfl⟩, R.refl _ _⟩ (fun _ _ _ _ _ => trivial) ?_ ?_
        · rintro j x σ H8 H9 hj ⟨⟨y6, y7, y8, rfl⟩, r8⟩ ⟨rfl, rfl⟩
          wtm_at "v"
          refine ⟨p, [p], n, rfl, by wtm_at "w", by wtm_at "p", n1, n40, fun H9 u ts gs r9 ok hu => ?_⟩
          wtm_at "v"
          refine ⟨p, [p], n, rfl, by wtm_at "w", by wtm_at "p", n1, n40, fun H10 u' ts' gs' r10 ok' hu' => ?_⟩
          wtm_at "v"
          refine s_seqJ (fun σ' H' => R p H10 H' ∧ ∃ b ts2 gs2, PairOk n ts2 gs2 ∧ Dat K [p] H' (pairD ts2 gs2) b ∧ σ' = [some (.ref a), some (.int (i : Nat)), some (.ref p), some (.int (n : Nat)), some sv, some (.int (j : Nat)), some u, some b]) ?_ ?_
          · wtm_at "v"
            wtm_at "dr"
            intro H11 d11 r11 a11 b11
            wtm_at "v"
            refine ite_d (fun _ => ?_) (fun _ => ?_)
            · wtm_at "v"
              exact ⟨r11, u, ts, gs, ok, by wtm_at "d", rfl⟩
            · wtm_at "v"
              exact ⟨r11, u', ts', gs', ok', by wtm_at "d", rfl⟩
          · rintro σ' H11 ⟨r11, b, ts2, gs2, ok2, hb, rfl⟩
            wtm_at "v"
            refine ⟨p, [p], n, ts, gs, ts2, gs2, u, b, sv, ms, rfl, by wtm_at "w", n1, n40, ok, ok2, by wtm_at "d", hb, by wtm_at "d", hm, hl, fun H12 r12 => ?_⟩
            wtm_at "v"
            exact ⟨⟨_, _, _, rfl⟩, by wtm_at "r"⟩
        · rintro σ H8 ⟨⟨y6, y7, y8, rfl⟩, r8⟩
          exact ⟨_, _, _, _, _, _, _, rfl, s1.trans (same_pot s3 hp0 (by wtm_at "r"))⟩
    · rintro σ H1 ⟨y1, y2, y3, y4, y5, y6, y7, rfl, s1⟩
      wtm_at "v"
      exact q _
end
/-! ### what the top has written; the law's own head -/
theorem all_mk {l : PySem.W.OpenLaw} {w : World} {K : PySem.W.Frag} {h : Heap} {mg : Str → Option Value} {fa : Addr} (X : K.In h) (G : h.Ns mainGlobals mg) (hfa : mg "law" = some (.ref fa))
    {f_law_pot : Addr} {od_law_pot an_law_pot : Option Addr} {sl_law_pot : Array (Option Value)} {oc_law_pot kV_law_pot dc_law_pot pm_law_pot cd_law_pot ct_law_pot : Value}
    {f_law_draw : Addr} {od_law_draw an_law_draw : Option Addr} {sl_law_draw : Array (Option Value)} {oc_law_draw kV_law_draw dc_law_draw pm_law_draw cd_law_draw ct_law_draw : Value}
    {f_law_width : Addr} {od_law_width an_law_width : Option Addr} {sl_law_width : Array (Option Value)} {oc_law_width kV_law_width dc_law_width pm_law_width cd_law_width ct_law_width : Value}
    {f_law_all_bits : Addr} {od_law_all_bits an_law_all_bits : Option Addr} {sl_law_all_bits : Array (Option Value)} {oc_law_all_bits kV_law_all_bits dc_law_all_bits pm_law_all_bits cd_law_all_bits ct_law_all_bits : Value}
    {f_law_bits : Addr} {od_law_bits an_law_bits : Option Addr} {sl_law_bits : Array (Option Value)} {oc_law_bits kV_law_bits dc_law_bits pm_law_bits cd_law_bits ct_law_bits : Value}
    {f_law_spots : Addr} {od_law_spots an_law_spots : Option Addr} {sl_law_spots : Array (Option Value)} {oc_law_spots kV_law_spots dc_law_spots pm_law_spots cd_law_spots ct_law_spots : Value}
    {f_law_pair : Addr} {od_law_pair an_law_pair : Option Addr} {sl_law_pair : Array (Option Value)} {oc_law_pair kV_law_pair dc_law_pair pm_law_pair cd_law_pair ct_law_pair : Value}
    {f_mask_of_cells : Addr} {od_mask_of_cells an_mask_of_cells : Option Addr} {sl_mask_of_cells : Array (Option Value)} {oc_mask_of_cells kV_mask_of_cells dc_mask_of_cells pm_mask_of_cells cd_mask_of_cells ct_mask_of_cells : Value}
    {f_is_integer_in : Addr} {od_is_integer_in an_is_integer_in : Option Addr} {sl_is_integer_in : Array (Option Value)} {oc_is_integer_in kV_is_integer_in dc_is_integer_in pm_is_integer_in cd_is_integer_in ct_is_integer_in : Value}
    {f_is_cell : Addr} {od_is_cell an_is_cell : Option Addr} {sl_is_cell : Array (Option Value)} {oc_is_cell dc_is_cell pm_is_cell cd_is_cell ct_is_cell : Value} {kd_is_cell : Addr}
    {kt_is_cell_0 : Tok}
    {f_cell_tuple : Addr} {od_cell_tuple an_cell_tuple : Option Addr} {sl_cell_tuple : Array (Option Value)} {oc_cell_tuple dc_cell_tuple pm_cell_tuple cd_cell_tuple ct_cell_tuple : Value} {kd_cell_tuple : Addr}
    {kt_cell_tuple_0 : Tok}
    {f_cell_mask : Addr} {od_cell_mask an_cell_mask : Option Addr} {sl_cell_mask : Array (Option Value)} {oc_cell_mask kV_cell_mask dc_cell_mask pm_cell_mask cd_cell_mask ct_cell_mask : Value}
    {f_is_odd_cells : Addr} {od_is_odd_cells an_is_odd_cells : Option Addr} {sl_is_odd_cells : Array (Option Value)} {oc_is_odd_cells kV_is_odd_cells dc_is_odd_cells pm_is_odd_cells cd_is_odd_cells ct_is_odd_cells : Value}
    {f_Flip____init : Addr} {od_Flip____init an_Flip____init : Option Addr} {sl_Flip____init : Array (Option Value)} {oc_Flip____init kV_Flip____init dc_Flip____init pm_Flip____init cd_Flip____init ct_Flip____init : Value}
    {f_law_flip_of : Addr} {od_law_flip_of an_law_flip_of : Option Addr} {sl_law_flip_of : Array (Option Value)} {oc_law_flip_of kV_law_flip_of dc_law_flip_of pm_law_flip_of cd_law_flip_of ct_law_flip_of : Value}
    {f_law_added : Addr} {od_law_added an_law_added : Option Addr} {sl_law_added : Array (Option Value)} {oc_law_added kV_law_added dc_law_added pm_law_added cd_law_added ct_law_added : Value}
    {f_law_past : Addr} {od_law_past an_law_past : Option Addr} {sl_law_past : Array (Option Value)} {oc_law_past kV_law_past dc_law_past pm_law_past cd_law_past ct_law_past : Value}
    {f_law_pair_past : Addr} {od_law_pair_past an_law_pair_past : Option Addr} {sl_law_pair_past : Array (Option Value)} {oc_law_pair_past kV_law_pair_past dc_law_pair_past pm_law_pair_past cd_law_pair_past ct_law_pair_past : Value}
    {f_cells_in_cells : Addr} {od_cells_in_cells an_cells_in_cells : Option Addr} {sl_cells_in_cells : Array (Option Value)} {oc_cells_in_cells kV_cells_in_cells dc_cells_in_cells pm_cells_in_cells cd_cells_in_cells ct_cells_in_cells : Value}
    {f_Flip__toggled : Addr} {od_Flip__toggled an_Flip__toggled : Option Addr} {sl_Flip__toggled : Array (Option Value)} {oc_Flip__toggled kV_Flip__toggled dc_Flip__toggled pm_Flip__toggled cd_Flip__toggled ct_Flip__toggled : Value}
    {f_Flip__tested : Addr} {od_Flip__tested an_Flip__tested : Option Addr} {sl_Flip__tested : Array (Option Value)} {oc_Flip__tested kV_Flip__tested dc_Flip__tested pm_Flip__tested cd_Flip__tested ct_Flip__tested : Value}
    {f_Flip____repr : Addr} {od_Flip____repr an_Flip____repr : Option Addr} {sl_Flip____repr : Array (Option Value)} {oc_Flip____repr kV_Flip____repr dc_Flip____repr pm_Flip____repr cd_Flip____repr ct_Flip____repr : Value}
    {f_mask_text : Addr} {od_mask_text an_mask_text : Option Addr} {sl_mask_text : Array (Option Value)} {oc_mask_text kV_mask_text dc_mask_text pm_mask_text cd_mask_text ct_mask_text : Value}
    {f_Flip____str : Addr} {od_Flip____str an_Flip____str : Option Addr} {sl_Flip____str : Array (Option Value)} {oc_Flip____str kV_Flip____str dc_Flip____str pm_Flip____str cd_Flip____str ct_Flip____str : Value}
    {f_law_text_of : Addr} {od_law_text_of an_law_text_of : Option Addr} {sl_law_text_of : Array (Option Value)} {oc_law_text_of kV_law_text_of dc_law_text_of pm_law_text_of cd_law_text_of ct_law_text_of : Value}
    {f_law_pair_text : Addr} {od_law_pair_text an_law_pair_text : Option Addr} {sl_law_pair_text : Array (Option Value)} {oc_law_pair_text kV_law_pair_text dc_law_pair_text pm_law_pair_text cd_law_pair_text ct_law_pair_text : Value}
    {f_law_written : Addr} {od_law_written an_law_written : Option Addr} {sl_law_written : Array (Option Value)} {oc_law_written kV_law_written dc_law_written pm_law_written cd_law_written ct_law_written : Value}
    {f_mask_of_sequences : Addr} {od_mask_of_sequences an_mask_of_sequences : Option Addr} {sl_mask_of_sequences : Array (Option Value)} {oc_mask_of_sequences kV_mask_of_sequences dc_mask_of_sequences pm_mask_of_sequences cd_mask_of_sequences ct_mask_of_sequences : Value}
    {f_cells_in_sequences : Addr} {od_cells_in_sequences an_cells_in_sequences : Option Addr} {sl_cells_in_sequences : Array (Option Value)} {oc_cells_in_sequences kV_cells_in_sequences dc_cells_in_sequences pm_cells_in_sequences cd_cells_in_sequences ct_cells_in_sequences : Value}
    {f_is_odd_sequences : Addr} {od_is_odd_sequences an_is_odd_sequences : Option Addr} {sl_is_odd_sequences : Array (Option Value)} {oc_is_odd_sequences kV_is_odd_sequences dc_is_odd_sequences pm_is_odd_sequences cd_is_odd_sequences ct_is_odd_sequences : Value}
    {f_mask_past : Addr} {od_mask_past an_mask_past : Option Addr} {sl_mask_past : Array (Option Value)} {oc_mask_past kV_mask_past dc_mask_past pm_mask_past cd_mask_past ct_mask_past : Value}
    {f_moved_past : Addr} {od_moved_past an_moved_past : Option Addr} {sl_moved_past : Array (Option Value)} {oc_moved_past kV_moved_past dc_moved_past pm_moved_past cd_moved_past ct_moved_past : Value}
    {f_Flip____eq : Addr} {od_Flip____eq an_Flip____eq : Option Addr} {sl_Flip____eq : Array (Option Value)} {oc_Flip____eq kV_Flip____eq dc_Flip____eq pm_Flip____eq cd_Flip____eq ct_Flip____eq : Value}
    {f_Flip__is_idle : Addr} {od_Flip__is_idle an_Flip__is_idle : Option Addr} {sl_Flip__is_idle : Array (Option Value)} {oc_Flip__is_idle kV_Flip__is_idle dc_Flip__is_idle pm_Flip__is_idle cd_Flip__is_idle ct_Flip__is_idle : Value}
    {f_Flip__width : Addr} {od_Flip__width an_Flip__width : Option Addr} {sl_Flip__width : Array (Option Value)} {oc_Flip__width kV_Flip__width dc_Flip__width pm_Flip__width cd_Flip__width ct_Flip__width : Value}
    {f_law_is_pair : Addr} {od_law_is_pair an_law_is_pair : Option Addr} {sl_law_is_pair : Array (Option Value)} {oc_law_is_pair kV_law_is_pair dc_law_is_pair pm_law_is_pair cd_law_is_pair ct_law_is_pair : Value}
    {f_law_parity : Addr} {od_law_parity an_law_parity : Option Addr} {sl_law_parity : Array (Option Value)} {oc_law_parity kV_law_parity dc_law_parity pm_law_parity cd_law_parity ct_law_parity : Value}
    {f_law_after : Addr} {od_law_after an_law_after : Option Addr} {sl_law_after : Array (Option Value)} {oc_law_after kV_law_after dc_law_after pm_law_after cd_law_after ct_law_after : Value}
    {f_law_after_all : Addr} {od_law_after_all an_law_after_all : Option Addr} {sl_law_after_all : Array (Option Value)} {oc_law_after_all kV_law_after_all dc_law_after_all pm_law_after_all cd_law_after_all ct_law_after_all : Value}
    {f_Board__size : Addr} {od_Board__size an_Board__size : Option Addr} {sl_Board__size : Array (Option Value)} {oc_Board__size kV_Board__size dc_Board__size pm_Board__size cd_Board__size ct_Board__size : Value}
    {f_require_cell : Addr} {od_require_cell an_require_cell : Option Addr} {sl_require_cell : Array (Option Value)} {oc_require_cell kV_require_cell dc_require_cell pm_require_cell cd_require_cell ct_require_cell : Value}
    {f_Board__is_up : Addr} {od_Board__is_up an_Board__is_up : Option Addr} {sl_Board__is_up : Array (Option Value)} {oc_Board__is_up kV_Board__is_up dc_Board__is_up pm_Board__is_up cd_Board__is_up ct_Board__is_up : Value}
    {f_Board__parity : Addr} {od_Board__parity an_Board__parity : Option Addr} {sl_Board__parity : Array (Option Value)} {oc_Board__parity kV_Board__parity dc_Board__parity pm_Board__parity cd_Board__parity ct_Board__parity : Value}
    {f_Board__up : Addr} {od_Board__up an_Board__up : Option Addr} {sl_Board__up : Array (Option Value)} {oc_Board__up kV_Board__up dc_Board__up pm_Board__up cd_Board__up ct_Board__up : Value}
    {f_law_up : Addr} {od_law_up an_law_up : Option Addr} {sl_law_up : Array (Option Value)} {oc_law_up kV_law_up dc_law_up pm_law_up cd_law_up ct_law_up : Value}
    {f_law_is_so : Addr} {od_law_is_so an_law_is_so : Option Addr} {sl_law_is_so : Array (Option Value)} {oc_law_is_so kV_law_is_so dc_law_is_so pm_law_is_so cd_law_is_so ct_law_is_so : Value}
    {f_require_fit : Addr} {od_require_fit an_require_fit : Option Addr} {sl_require_fit : Array (Option Value)} {oc_require_fit kV_require_fit dc_require_fit pm_require_fit cd_require_fit ct_require_fit : Value}
    {f_require_size : Addr} {od_require_size an_require_size : Option Addr} {sl_require_size : Array (Option Value)} {oc_require_size kV_require_size dc_require_size pm_require_size cd_require_size ct_require_size : Value}
    {f_Board____init : Addr} {od_Board____init an_Board____init : Option Addr} {sl_Board____init : Array (Option Value)} {oc_Board____init dc_Board____init pm_Board____init cd_Board____init ct_Board____init : Value} {kd_Board____init : Addr}
    {dd_Board____init_0 : Option Addr} {dn_Board____init_0 : Nat} {ds_Board____init_0 : Array (Option Value)} {da_Board____init_0 : Addr}
    {f_board_of : Addr} {od_board_of an_board_of : Option Addr} {sl_board_of : Array (Option Value)} {oc_board_of kV_board_of dc_board_of pm_board_of cd_board_of ct_board_of : Value}
    {f_mask_after : Addr} {od_mask_after an_mask_after : Option Addr} {sl_mask_after : Array (Option Value)} {oc_mask_after kV_mask_after dc_mask_after pm_mask_after cd_mask_after ct_mask_after : Value}
    {f_apply_flip : Addr} {od_apply_flip an_apply_flip : Option Addr} {sl_apply_flip : Array (Option Value)} {oc_apply_flip kV_apply_flip dc_apply_flip pm_apply_flip cd_apply_flip ct_apply_flip : Value}
    {f_apply_flips : Addr} {od_apply_flips an_apply_flips : Option Addr} {sl_apply_flips : Array (Option Value)} {oc_apply_flips kV_apply_flips dc_apply_flips pm_apply_flips cd_apply_flips ct_apply_flips : Value}
    {f_law_made : Addr} {od_law_made an_law_made : Option Addr} {sl_law_made : Array (Option Value)} {oc_law_made kV_law_made dc_law_made pm_law_made cd_law_made ct_law_made : Value}
    {f_law_right : Addr} {od_law_right an_law_right : Option Addr} {sl_law_right : Array (Option Value)} {oc_law_right kV_law_right dc_law_right pm_law_right cd_law_right ct_law_right : Value}
    {f_law : Addr} {od_law an_law : Option Addr} {sl_law : Array (Option Value)} {oc_law kV_law dc_law pm_law cd_law ct_law : Value}
    {c_Board : Addr}
    {c_Flip : Addr}
    {c_CellError : Addr}
    {c_LimitError : Addr}
    {c_NoSize : Addr}
    {c_NoCell : Addr}
    {c_NoCells : Addr}
    {c_NoFlip : Addr}
    {c_TooWide : Addr}
    {fI_NoSize N_NoSize : Addr} {nm_NoSize qn_NoSize : Str} {bs_NoSize sb_NoSize : List Value} {sn_NoSize : List Str} {ab_NoSize : Bool} {col_NoSize : Option Bool} {dd_NoSize od_NoSize an_NoSize : Option Addr} {m0_NoSize m1_NoSize m2_NoSize m3_NoSize m5_NoSize : Option Value} {oc_NoSize kV_NoSize dc_NoSize pm_NoSize cd_NoSize ct_NoSize : Value} {sl_NoSize : Array (Option Value)}
    {fI_NoCell N_NoCell : Addr} {nm_NoCell qn_NoCell : Str} {bs_NoCell sb_NoCell : List Value} {sn_NoCell : List Str} {ab_NoCell : Bool} {col_NoCell : Option Bool} {dd_NoCell od_NoCell an_NoCell : Option Addr} {m0_NoCell m1_NoCell m2_NoCell m3_NoCell m5_NoCell : Option Value} {oc_NoCell kV_NoCell dc_NoCell pm_NoCell cd_NoCell ct_NoCell : Value} {sl_NoCell : Array (Option Value)}
    {fI_NoCells N_NoCells : Addr} {nm_NoCells qn_NoCells : Str} {bs_NoCells sb_NoCells : List Value} {sn_NoCells : List Str} {ab_NoCells : Bool} {col_NoCells : Option Bool} {dd_NoCells od_NoCells an_NoCells : Option Addr} {m0_NoCells m1_NoCells m2_NoCells m3_NoCells m5_NoCells : Option Value} {oc_NoCells kV_NoCells dc_NoCells pm_NoCells cd_NoCells ct_NoCells : Value} {sl_NoCells : Array (Option Value)}
    {fI_NoFlip N_NoFlip : Addr} {nm_NoFlip qn_NoFlip : Str} {bs_NoFlip sb_NoFlip : List Value} {sn_NoFlip : List Str} {ab_NoFlip : Bool} {col_NoFlip : Option Bool} {dd_NoFlip od_NoFlip an_NoFlip : Option Addr} {m0_NoFlip m1_NoFlip m2_NoFlip m3_NoFlip m5_NoFlip : Option Value} {oc_NoFlip kV_NoFlip dc_NoFlip pm_NoFlip cd_NoFlip ct_NoFlip : Value} {sl_NoFlip : Array (Option Value)}
    {fI_TooWide N_TooWide : Addr} {nm_TooWide qn_TooWide : Str} {bs_TooWide sb_TooWide : List Value} {sn_TooWide : List Str} {ab_TooWide : Bool} {col_TooWide : Option Bool} {dd_TooWide od_TooWide an_TooWide : Option Addr} {m0_TooWide m1_TooWide m2_TooWide m3_TooWide m5_TooWide : Option Value} {oc_TooWide kV_TooWide dc_TooWide pm_TooWide cd_TooWide ct_TooWide : Value} {sl_TooWide : Array (Option Value)}
    {t_MOST_CELLS : Tok}
    (aC_Flip : PySem.W.nsIn K mainGlobals "Flip" = some (some (.ref c_Flip)))
    (aC_Board : PySem.W.nsIn K mainGlobals "Board" = some (some (.ref c_Board)))
    (a_law_pot : PySem.W.nsIn K mainGlobals "_law_pot" = some (some (.ref f_law_pot))) (l_law_pot : K.lookup f_law_pot = some ⟨oc_law_pot, od_law_pot, .func (PySem.W.fnOf "_law_pot" "_law_pot" (defArgs st__law_pot) (defBody st__law_pot) (defScope st__law_pot) .none kV_law_pot dc_law_pot pm_law_pot an_law_pot cd_law_pot ct_law_pot), sl_law_pot⟩) (c_law_pot : PySem.W.codeIn K cd_law_pot "_law_pot" = true) (k_law_pot : PySem.W.keepIn K (.ref f_law_pot) = true)
    (a_law_draw : PySem.W.nsIn K mainGlobals "_law_draw" = some (some (.ref f_law_draw))) (l_law_draw : K.lookup f_law_draw = some ⟨oc_law_draw, od_law_draw, .func (PySem.W.fnOf "_law_draw" "_law_draw" (defArgs st__law_draw) (defBody st__law_draw) (defScope st__law_draw) .none kV_law_draw dc_law_draw pm_law_draw an_law_draw cd_law_draw ct_law_draw), sl_law_draw⟩) (c_law_draw : PySem.W.codeIn K cd_law_draw "_law_draw" = true) (k_law_draw : PySem.W.keepIn K (.ref f_law_draw) = true)
    (a_law_width : PySem.W.nsIn K mainGlobals "_law_width" = some (some (.ref f_law_width))) (l_law_width : K.lookup f_law_width = some ⟨oc_law_width, od_law_width, .func (PySem.W.fnOf "_law_width" "_law_width" (defArgs st__law_width) (defBody st__law_width) (defScope st__law_width) .none kV_law_width dc_law_width pm_law_width an_law_width cd_law_width ct_law_width), sl_law_width⟩) (c_law_width : PySem.W.codeIn K cd_law_width "_law_width" = true) (k_law_width : PySem.W.keepIn K (.ref f_law_width) = true)
    (a_law_all_bits : PySem.W.nsIn K mainGlobals "_law_all_bits" = some (some (.ref f_law_all_bits))) (l_law_all_bits : K.lookup f_law_all_bits = some ⟨oc_law_all_bits, od_law_all_bits, .func (PySem.W.fnOf "_law_all_bits" "_law_all_bits" (defArgs st__law_all_bits) (defBody st__law_all_bits) (defScope st__law_all_bits) .none kV_law_all_bits dc_law_all_bits pm_law_all_bits an_law_all_bits cd_law_all_bits ct_law_all_bits), sl_law_all_bits⟩) (c_law_all_bits : PySem.W.codeIn K cd_law_all_bits "_law_all_bits" = true) (k_law_all_bits : PySem.W.keepIn K (.ref f_law_all_bits) = true)
    (a_law_bits : PySem.W.nsIn K mainGlobals "_law_bits" = some (some (.ref f_law_bits))) (l_law_bits : K.lookup f_law_bits = some ⟨oc_law_bits, od_law_bits, .func (PySem.W.fnOf "_law_bits" "_law_bits" (defArgs st__law_bits) (defBody st__law_bits) (defScope st__law_bits) .none kV_law_bits dc_law_bits pm_law_bits an_law_bits cd_law_bits ct_law_bits), sl_law_bits⟩) (c_law_bits : PySem.W.codeIn K cd_law_bits "_law_bits" = true) (k_law_bits : PySem.W.keepIn K (.ref f_law_bits) = true)
    (a_law_spots : PySem.W.nsIn K mainGlobals "_law_spots" = some (some (.ref f_law_spots))) (l_law_spots : K.lookup f_law_spots = some ⟨oc_law_spots, od_law_spots, .func (PySem.W.fnOf "_law_spots" "_law_spots" (defArgs st__law_spots) (defBody st__law_spots) (defScope st__law_spots) .none kV_law_spots dc_law_spots pm_law_spots an_law_spots cd_law_spots ct_law_spots), sl_law_spots⟩) (c_law_spots : PySem.W.codeIn K cd_law_spots "_law_spots" = true) (k_law_spots : PySem.W.keepIn K (.ref f_law_spots) = true)
    (a_law_pair : PySem.W.nsIn K mainGlobals "_law_pair" = some (some (.ref f_law_pair))) (l_law_pair : K.lookup f_law_pair = some ⟨oc_law_pair, od_law_pair, .func (PySem.W.fnOf "_law_pair" "_law_pair" (defArgs st__law_pair) (defBody st__law_pair) (defScope st__law_pair) .none kV_law_pair dc_law_pair pm_law_pair an_law_pair cd_law_pair ct_law_pair), sl_law_pair⟩) (c_law_pair : PySem.W.codeIn K cd_law_pair "_law_pair" = true) (k_law_pair : PySem.W.keepIn K (.ref f_law_pair) = true)
    (a_mask_of_cells : PySem.W.nsIn K mainGlobals "mask_of_cells" = some (some (.ref f_mask_of_cells))) (l_mask_of_cells : K.lookup f_mask_of_cells = some ⟨oc_mask_of_cells, od_mask_of_cells, .func (PySem.W.fnOf "mask_of" "mask_of" (defArgs st_mask_of_cells) (defBody st_mask_of_cells) (defScope st_mask_of_cells) .none kV_mask_of_cells dc_mask_of_cells pm_mask_of_cells an_mask_of_cells cd_mask_of_cells ct_mask_of_cells), sl_mask_of_cells⟩) (c_mask_of_cells : PySem.W.codeIn K cd_mask_of_cells "mask_of" = true) (k_mask_of_cells : PySem.W.keepIn K (.ref f_mask_of_cells) = true)
    (a_is_integer_in : PySem.W.nsIn K mainGlobals "is_integer_in" = some (some (.ref f_is_integer_in))) (l_is_integer_in : K.lookup f_is_integer_in = some ⟨oc_is_integer_in, od_is_integer_in, .func (PySem.W.fnOf "is_integer_in" "is_integer_in" (defArgs st_is_integer_in) (defBody st_is_integer_in) (defScope st_is_integer_in) .none kV_is_integer_in dc_is_integer_in pm_is_integer_in an_is_integer_in cd_is_integer_in ct_is_integer_in), sl_is_integer_in⟩) (c_is_integer_in : PySem.W.codeIn K cd_is_integer_in "is_integer_in" = true) (k_is_integer_in : PySem.W.keepIn K (.ref f_is_integer_in) = true)
    (a_is_cell : PySem.W.nsIn K mainGlobals "is_cell" = some (some (.ref f_is_cell))) (l_is_cell : K.lookup f_is_cell = some ⟨oc_is_cell, od_is_cell, .func (PySem.W.fnOf "is_cell" "is_cell" (defArgs st_is_cell) (defBody st_is_cell) (defScope st_is_cell) .none (.ref kd_is_cell) dc_is_cell pm_is_cell an_is_cell cd_is_cell ct_is_cell), sl_is_cell⟩) (c_is_cell : PySem.W.codeIn K cd_is_cell "is_cell" = true) (k_is_cell : PySem.W.keepIn K (.ref f_is_cell) = true)
    (kw_is_cell_0 : PySem.W.nsIn K kd_is_cell "size" = some (some (.int 40 kt_is_cell_0)))
    (a_cell_tuple : PySem.W.nsIn K mainGlobals "cell_tuple" = some (some (.ref f_cell_tuple))) (l_cell_tuple : K.lookup f_cell_tuple = some ⟨oc_cell_tuple, od_cell_tuple, .func (PySem.W.fnOf "cell_tuple" "cell_tuple" (defArgs st_cell_tuple) (defBody st_cell_tuple) (defScope st_cell_tuple) .none (.ref kd_cell_tuple) dc_cell_tuple pm_cell_tuple an_cell_tuple cd_cell_tuple ct_cell_tuple), sl_cell_tuple⟩) (c_cell_tuple : PySem.W.codeIn K cd_cell_tuple "cell_tuple" = true) (k_cell_tuple : PySem.W.keepIn K (.ref f_cell_tuple) = true)
    (kw_cell_tuple_0 : PySem.W.nsIn K kd_cell_tuple "size" = some (some (.int 40 kt_cell_tuple_0)))
    (a_cell_mask : PySem.W.nsIn K mainGlobals "cell_mask" = some (some (.ref f_cell_mask))) (l_cell_mask : K.lookup f_cell_mask = some ⟨oc_cell_mask, od_cell_mask, .func (PySem.W.fnOf "cell_mask" "cell_mask" (defArgs st_cell_mask) (defBody st_cell_mask) (defScope st_cell_mask) .none kV_cell_mask dc_cell_mask pm_cell_mask an_cell_mask cd_cell_mask ct_cell_mask), sl_cell_mask⟩) (c_cell_mask : PySem.W.codeIn K cd_cell_mask "cell_mask" = true) (k_cell_mask : PySem.W.keepIn K (.ref f_cell_mask) = true)
    (a_is_odd_cells : PySem.W.nsIn K mainGlobals "is_odd_cells" = some (some (.ref f_is_odd_cells))) (l_is_odd_cells : K.lookup f_is_odd_cells = some ⟨oc_is_odd_cells, od_is_odd_cells, .func (PySem.W.fnOf "is_odd" "is_odd" (defArgs st_is_odd_cells) (defBody st_is_odd_cells) (defScope st_is_odd_cells) .none kV_is_odd_cells dc_is_odd_cells pm_is_odd_cells an_is_odd_cells cd_is_odd_cells ct_is_odd_cells), sl_is_odd_cells⟩) (c_is_odd_cells : PySem.W.codeIn K cd_is_odd_cells "is_odd" = true) (k_is_odd_cells : PySem.W.keepIn K (.ref f_is_odd_cells) = true)
    (a_Flip____init : PySem.W.findIn K (.ref c_Flip) "__init__" = some (some (.ref f_Flip____init))) (i_Flip____init : PySem.W.isFn K (.ref f_Flip____init) = true) (l_Flip____init : K.lookup f_Flip____init = some ⟨oc_Flip____init, od_Flip____init, .func (PySem.W.fnOf "__init__" "Flip.__init__" (defArgs st_Flip____init__) (defBody st_Flip____init__) (defScope st_Flip____init__) .none kV_Flip____init dc_Flip____init pm_Flip____init an_Flip____init cd_Flip____init ct_Flip____init), sl_Flip____init⟩) (c_Flip____init : PySem.W.codeIn K cd_Flip____init "Flip.__init__" = true) (k_Flip____init : PySem.W.keepIn K (.ref f_Flip____init) = true)
    (a_law_flip_of : PySem.W.nsIn K mainGlobals "_law_flip_of" = some (some (.ref f_law_flip_of))) (l_law_flip_of : K.lookup f_law_flip_of = some ⟨oc_law_flip_of, od_law_flip_of, .func (PySem.W.fnOf "_law_flip_of" "_law_flip_of" (defArgs st__law_flip_of) (defBody st__law_flip_of) (defScope st__law_flip_of) .none kV_law_flip_of dc_law_flip_of pm_law_flip_of an_law_flip_of cd_law_flip_of ct_law_flip_of), sl_law_flip_of⟩) (c_law_flip_of : PySem.W.codeIn K cd_law_flip_of "_law_flip_of" = true) (k_law_flip_of : PySem.W.keepIn K (.ref f_law_flip_of) = true)
    (a_law_added : PySem.W.nsIn K mainGlobals "_law_added" = some (some (.ref f_law_added))) (l_law_added : K.lookup f_law_added = some ⟨oc_law_added, od_law_added, .func (PySem.W.fnOf "_law_added" "_law_added" (defArgs st__law_added) (defBody st__law_added) (defScope st__law_added) .none kV_law_added dc_law_added pm_law_added an_law_added cd_law_added ct_law_added), sl_law_added⟩) (c_law_added : PySem.W.codeIn K cd_law_added "_law_added" = true) (k_law_added : PySem.W.keepIn K (.ref f_law_added) = true)
    (a_law_past : PySem.W.nsIn K mainGlobals "_law_past" = some (some (.ref f_law_past))) (l_law_past : K.lookup f_law_past = some ⟨oc_law_past, od_law_past, .func (PySem.W.fnOf "_law_past" "_law_past" (defArgs st__law_past) (defBody st__law_past) (defScope st__law_past) .none kV_law_past dc_law_past pm_law_past an_law_past cd_law_past ct_law_past), sl_law_past⟩) (c_law_past : PySem.W.codeIn K cd_law_past "_law_past" = true) (k_law_past : PySem.W.keepIn K (.ref f_law_past) = true)
    (a_law_pair_past : PySem.W.nsIn K mainGlobals "_law_pair_past" = some (some (.ref f_law_pair_past))) (l_law_pair_past : K.lookup f_law_pair_past = some ⟨oc_law_pair_past, od_law_pair_past, .func (PySem.W.fnOf "_law_pair_past" "_law_pair_past" (defArgs st__law_pair_past) (defBody st__law_pair_past) (defScope st__law_pair_past) .none kV_law_pair_past dc_law_pair_past pm_law_pair_past an_law_pair_past cd_law_pair_past ct_law_pair_past), sl_law_pair_past⟩) (c_law_pair_past : PySem.W.codeIn K cd_law_pair_past "_law_pair_past" = true) (k_law_pair_past : PySem.W.keepIn K (.ref f_law_pair_past) = true)
    (a_cells_in_cells : PySem.W.nsIn K mainGlobals "cells_in_cells" = some (some (.ref f_cells_in_cells))) (l_cells_in_cells : K.lookup f_cells_in_cells = some ⟨oc_cells_in_cells, od_cells_in_cells, .func (PySem.W.fnOf "cells_in" "cells_in" (defArgs st_cells_in_cells) (defBody st_cells_in_cells) (defScope st_cells_in_cells) .none kV_cells_in_cells dc_cells_in_cells pm_cells_in_cells an_cells_in_cells cd_cells_in_cells ct_cells_in_cells), sl_cells_in_cells⟩) (c_cells_in_cells : PySem.W.codeIn K cd_cells_in_cells "cells_in" = true) (k_cells_in_cells : PySem.W.keepIn K (.ref f_cells_in_cells) = true)
    (a_Flip__toggled : PySem.W.findIn K (.ref c_Flip) "toggled" = some (some (.ref f_Flip__toggled))) (i_Flip__toggled : PySem.W.isFn K (.ref f_Flip__toggled) = true) (l_Flip__toggled : K.lookup f_Flip__toggled = some ⟨oc_Flip__toggled, od_Flip__toggled, .func (PySem.W.fnOf "toggled" "Flip.toggled" (defArgs st_Flip__toggled) (defBody st_Flip__toggled) (defScope st_Flip__toggled) .none kV_Flip__toggled dc_Flip__toggled pm_Flip__toggled an_Flip__toggled cd_Flip__toggled ct_Flip__toggled), sl_Flip__toggled⟩) (c_Flip__toggled : PySem.W.codeIn K cd_Flip__toggled "Flip.toggled" = true) (k_Flip__toggled : PySem.W.keepIn K (.ref f_Flip__toggled) = true)
    (a_Flip__tested : PySem.W.findIn K (.ref c_Flip) "tested" = some (some (.ref f_Flip__tested))) (i_Flip__tested : PySem.W.isFn K (.ref f_Flip__tested) = true) (l_Flip__tested : K.lookup f_Flip__tested = some ⟨oc_Flip__tested, od_Flip__tested, .func (PySem.W.fnOf "tested" "Flip.tested" (defArgs st_Flip__tested) (defBody st_Flip__tested) (defScope st_Flip__tested) .none kV_Flip__tested dc_Flip__tested pm_Flip__tested an_Flip__tested cd_Flip__tested ct_Flip__tested), sl_Flip__tested⟩) (c_Flip__tested : PySem.W.codeIn K cd_Flip__tested "Flip.tested" = true) (k_Flip__tested : PySem.W.keepIn K (.ref f_Flip__tested) = true)
    (a_Flip____repr : PySem.W.findIn K (.ref c_Flip) "__repr__" = some (some (.ref f_Flip____repr))) (i_Flip____repr : PySem.W.isFn K (.ref f_Flip____repr) = true) (l_Flip____repr : K.lookup f_Flip____repr = some ⟨oc_Flip____repr, od_Flip____repr, .func (PySem.W.fnOf "__repr__" "Flip.__repr__" (defArgs st_Flip____repr__) (defBody st_Flip____repr__) (defScope st_Flip____repr__) .none kV_Flip____repr dc_Flip____repr pm_Flip____repr an_Flip____repr cd_Flip____repr ct_Flip____repr), sl_Flip____repr⟩) (c_Flip____repr : PySem.W.codeIn K cd_Flip____repr "Flip.__repr__" = true) (k_Flip____repr : PySem.W.keepIn K (.ref f_Flip____repr) = true)
    (a_mask_text : PySem.W.nsIn K mainGlobals "mask_text" = some (some (.ref f_mask_text))) (l_mask_text : K.lookup f_mask_text = some ⟨oc_mask_text, od_mask_text, .func (PySem.W.fnOf "mask_text" "mask_text" (defArgs st_mask_text) (defBody st_mask_text) (defScope st_mask_text) .none kV_mask_text dc_mask_text pm_mask_text an_mask_text cd_mask_text ct_mask_text), sl_mask_text⟩) (c_mask_text : PySem.W.codeIn K cd_mask_text "mask_text" = true) (k_mask_text : PySem.W.keepIn K (.ref f_mask_text) = true)
    (a_Flip____str : PySem.W.findIn K (.ref c_Flip) "__str__" = some (some (.ref f_Flip____str))) (i_Flip____str : PySem.W.isFn K (.ref f_Flip____str) = true) (l_Flip____str : K.lookup f_Flip____str = some ⟨oc_Flip____str, od_Flip____str, .func (PySem.W.fnOf "__str__" "Flip.__str__" (defArgs st_Flip____str__) (defBody st_Flip____str__) (defScope st_Flip____str__) .none kV_Flip____str dc_Flip____str pm_Flip____str an_Flip____str cd_Flip____str ct_Flip____str), sl_Flip____str⟩) (c_Flip____str : PySem.W.codeIn K cd_Flip____str "Flip.__str__" = true) (k_Flip____str : PySem.W.keepIn K (.ref f_Flip____str) = true)
    (a_law_text_of : PySem.W.nsIn K mainGlobals "_law_text_of" = some (some (.ref f_law_text_of))) (l_law_text_of : K.lookup f_law_text_of = some ⟨oc_law_text_of, od_law_text_of, .func (PySem.W.fnOf "_law_text_of" "_law_text_of" (defArgs st__law_text_of) (defBody st__law_text_of) (defScope st__law_text_of) .none kV_law_text_of dc_law_text_of pm_law_text_of an_law_text_of cd_law_text_of ct_law_text_of), sl_law_text_of⟩) (c_law_text_of : PySem.W.codeIn K cd_law_text_of "_law_text_of" = true) (k_law_text_of : PySem.W.keepIn K (.ref f_law_text_of) = true)
    (a_law_pair_text : PySem.W.nsIn K mainGlobals "_law_pair_text" = some (some (.ref f_law_pair_text))) (l_law_pair_text : K.lookup f_law_pair_text = some ⟨oc_law_pair_text, od_law_pair_text, .func (PySem.W.fnOf "_law_pair_text" "_law_pair_text" (defArgs st__law_pair_text) (defBody st__law_pair_text) (defScope st__law_pair_text) .none kV_law_pair_text dc_law_pair_text pm_law_pair_text an_law_pair_text cd_law_pair_text ct_law_pair_text), sl_law_pair_text⟩) (c_law_pair_text : PySem.W.codeIn K cd_law_pair_text "_law_pair_text" = true) (k_law_pair_text : PySem.W.keepIn K (.ref f_law_pair_text) = true)
    (a_law_written : PySem.W.nsIn K mainGlobals "_law_written" = some (some (.ref f_law_written))) (l_law_written : K.lookup f_law_written = some ⟨oc_law_written, od_law_written, .func (PySem.W.fnOf "_law_written" "_law_written" (defArgs st__law_written) (defBody st__law_written) (defScope st__law_written) .none kV_law_written dc_law_written pm_law_written an_law_written cd_law_written ct_law_written), sl_law_written⟩) (c_law_written : PySem.W.codeIn K cd_law_written "_law_written" = true) (k_law_written : PySem.W.keepIn K (.ref f_law_written) = true)
    (a_mask_of_sequences : PySem.W.nsIn K mainGlobals "mask_of_sequences" = some (some (.ref f_mask_of_sequences))) (l_mask_of_sequences : K.lookup f_mask_of_sequences = some ⟨oc_mask_of_sequences, od_mask_of_sequences, .func (PySem.W.fnOf "mask_of" "mask_of" (defArgs st_mask_of_sequences) (defBody st_mask_of_sequences) (defScope st_mask_of_sequences) .none kV_mask_of_sequences dc_mask_of_sequences pm_mask_of_sequences an_mask_of_sequences cd_mask_of_sequences ct_mask_of_sequences), sl_mask_of_sequences⟩) (c_mask_of_sequences : PySem.W.codeIn K cd_mask_of_sequences "mask_of" = true) (k_mask_of_sequences : PySem.W.keepIn K (.ref f_mask_of_sequences) = true)
    (a_cells_in_sequences : PySem.W.nsIn K mainGlobals "cells_in_sequences" = some (some (.ref f_cells_in_sequences))) (l_cells_in_sequences : K.lookup f_cells_in_sequences = some ⟨oc_cells_in_sequences, od_cells_in_sequences, .func (PySem.W.fnOf "cells_in" "cells_in" (defArgs st_cells_in_sequences) (defBody st_cells_in_sequences) (defScope st_cells_in_sequences) .none kV_cells_in_sequences dc_cells_in_sequences pm_cells_in_sequences an_cells_in_sequences cd_cells_in_sequences ct_cells_in_sequences), sl_cells_in_sequences⟩) (c_cells_in_sequences : PySem.W.codeIn K cd_cells_in_sequences "cells_in" = true) (k_cells_in_sequences : PySem.W.keepIn K (.ref f_cells_in_sequences) = true)
    (a_is_odd_sequences : PySem.W.nsIn K mainGlobals "is_odd_sequences" = some (some (.ref f_is_odd_sequences))) (l_is_odd_sequences : K.lookup f_is_odd_sequences = some ⟨oc_is_odd_sequences, od_is_odd_sequences, .func (PySem.W.fnOf "is_odd" "is_odd" (defArgs st_is_odd_sequences) (defBody st_is_odd_sequences) (defScope st_is_odd_sequences) .none kV_is_odd_sequences dc_is_odd_sequences pm_is_odd_sequences an_is_odd_sequences cd_is_odd_sequences ct_is_odd_sequences), sl_is_odd_sequences⟩) (c_is_odd_sequences : PySem.W.codeIn K cd_is_odd_sequences "is_odd" = true) (k_is_odd_sequences : PySem.W.keepIn K (.ref f_is_odd_sequences) = true)
    (a_mask_past : PySem.W.nsIn K mainGlobals "mask_past" = some (some (.ref f_mask_past))) (l_mask_past : K.lookup f_mask_past = some ⟨oc_mask_past, od_mask_past, .func (PySem.W.fnOf "mask_past" "mask_past" (defArgs st_mask_past) (defBody st_mask_past) (defScope st_mask_past) .none kV_mask_past dc_mask_past pm_mask_past an_mask_past cd_mask_past ct_mask_past), sl_mask_past⟩) (c_mask_past : PySem.W.codeIn K cd_mask_past "mask_past" = true) (k_mask_past : PySem.W.keepIn K (.ref f_mask_past) = true)
    (a_moved_past : PySem.W.nsIn K mainGlobals "moved_past" = some (some (.ref f_moved_past))) (l_moved_past : K.lookup f_moved_past = some ⟨oc_moved_past, od_moved_past, .func (PySem.W.fnOf "moved_past" "moved_past" (defArgs st_moved_past) (defBody st_moved_past) (defScope st_moved_past) .none kV_moved_past dc_moved_past pm_moved_past an_moved_past cd_moved_past ct_moved_past), sl_moved_past⟩) (c_moved_past : PySem.W.codeIn K cd_moved_past "moved_past" = true) (k_moved_past : PySem.W.keepIn K (.ref f_moved_past) = true)
    (a_Flip____eq : PySem.W.findIn K (.ref c_Flip) "__eq__" = some (some (.ref f_Flip____eq))) (i_Flip____eq : PySem.W.isFn K (.ref f_Flip____eq) = true) (l_Flip____eq : K.lookup f_Flip____eq = some ⟨oc_Flip____eq, od_Flip____eq, .func (PySem.W.fnOf "__eq__" "Flip.__eq__" (defArgs st_Flip____eq__) (defBody st_Flip____eq__) (defScope st_Flip____eq__) .none kV_Flip____eq dc_Flip____eq pm_Flip____eq an_Flip____eq cd_Flip____eq ct_Flip____eq), sl_Flip____eq⟩) (c_Flip____eq : PySem.W.codeIn K cd_Flip____eq "Flip.__eq__" = true) (k_Flip____eq : PySem.W.keepIn K (.ref f_Flip____eq) = true)
    (a_Flip__is_idle : PySem.W.findIn K (.ref c_Flip) "is_idle" = some (some (.ref f_Flip__is_idle))) (i_Flip__is_idle : PySem.W.isFn K (.ref f_Flip__is_idle) = true) (l_Flip__is_idle : K.lookup f_Flip__is_idle = some ⟨oc_Flip__is_idle, od_Flip__is_idle, .func (PySem.W.fnOf "is_idle" "Flip.is_idle" (defArgs st_Flip__is_idle) (defBody st_Flip__is_idle) (defScope st_Flip__is_idle) .none kV_Flip__is_idle dc_Flip__is_idle pm_Flip__is_idle an_Flip__is_idle cd_Flip__is_idle ct_Flip__is_idle), sl_Flip__is_idle⟩) (c_Flip__is_idle : PySem.W.codeIn K cd_Flip__is_idle "Flip.is_idle" = true) (k_Flip__is_idle : PySem.W.keepIn K (.ref f_Flip__is_idle) = true)
    (a_Flip__width : PySem.W.findIn K (.ref c_Flip) "width" = some (some (.ref f_Flip__width))) (i_Flip__width : PySem.W.isFn K (.ref f_Flip__width) = true) (l_Flip__width : K.lookup f_Flip__width = some ⟨oc_Flip__width, od_Flip__width, .func (PySem.W.fnOf "width" "Flip.width" (defArgs st_Flip__width) (defBody st_Flip__width) (defScope st_Flip__width) .none kV_Flip__width dc_Flip__width pm_Flip__width an_Flip__width cd_Flip__width ct_Flip__width), sl_Flip__width⟩) (c_Flip__width : PySem.W.codeIn K cd_Flip__width "Flip.width" = true) (k_Flip__width : PySem.W.keepIn K (.ref f_Flip__width) = true)
    (a_law_is_pair : PySem.W.nsIn K mainGlobals "_law_is_pair" = some (some (.ref f_law_is_pair))) (l_law_is_pair : K.lookup f_law_is_pair = some ⟨oc_law_is_pair, od_law_is_pair, .func (PySem.W.fnOf "_law_is_pair" "_law_is_pair" (defArgs st__law_is_pair) (defBody st__law_is_pair) (defScope st__law_is_pair) .none kV_law_is_pair dc_law_is_pair pm_law_is_pair an_law_is_pair cd_law_is_pair ct_law_is_pair), sl_law_is_pair⟩) (c_law_is_pair : PySem.W.codeIn K cd_law_is_pair "_law_is_pair" = true) (k_law_is_pair : PySem.W.keepIn K (.ref f_law_is_pair) = true)
    (a_law_parity : PySem.W.nsIn K mainGlobals "_law_parity" = some (some (.ref f_law_parity))) (l_law_parity : K.lookup f_law_parity = some ⟨oc_law_parity, od_law_parity, .func (PySem.W.fnOf "_law_parity" "_law_parity" (defArgs st__law_parity) (defBody st__law_parity) (defScope st__law_parity) .none kV_law_parity dc_law_parity pm_law_parity an_law_parity cd_law_parity ct_law_parity), sl_law_parity⟩) (c_law_parity : PySem.W.codeIn K cd_law_parity "_law_parity" = true) (k_law_parity : PySem.W.keepIn K (.ref f_law_parity) = true)
    (a_law_after : PySem.W.nsIn K mainGlobals "_law_after" = some (some (.ref f_law_after))) (l_law_after : K.lookup f_law_after = some ⟨oc_law_after, od_law_after, .func (PySem.W.fnOf "_law_after" "_law_after" (defArgs st__law_after) (defBody st__law_after) (defScope st__law_after) .none kV_law_after dc_law_after pm_law_after an_law_after cd_law_after ct_law_after), sl_law_after⟩) (c_law_after : PySem.W.codeIn K cd_law_after "_law_after" = true) (k_law_after : PySem.W.keepIn K (.ref f_law_after) = true)
    (a_law_after_all : PySem.W.nsIn K mainGlobals "_law_after_all" = some (some (.ref f_law_after_all))) (l_law_after_all : K.lookup f_law_after_all = some ⟨oc_law_after_all, od_law_after_all, .func (PySem.W.fnOf "_law_after_all" "_law_after_all" (defArgs st__law_after_all) (defBody st__law_after_all) (defScope st__law_after_all) .none kV_law_after_all dc_law_after_all pm_law_after_all an_law_after_all cd_law_after_all ct_law_after_all), sl_law_after_all⟩) (c_law_after_all : PySem.W.codeIn K cd_law_after_all "_law_after_all" = true) (k_law_after_all : PySem.W.keepIn K (.ref f_law_after_all) = true)
    (a_Board__size : PySem.W.findIn K (.ref c_Board) "size" = some (some (.ref f_Board__size))) (i_Board__size : PySem.W.isFn K (.ref f_Board__size) = true) (l_Board__size : K.lookup f_Board__size = some ⟨oc_Board__size, od_Board__size, .func (PySem.W.fnOf "size" "Board.size" (defArgs st_Board__size) (defBody st_Board__size) (defScope st_Board__size) .none kV_Board__size dc_Board__size pm_Board__size an_Board__size cd_Board__size ct_Board__size), sl_Board__size⟩) (c_Board__size : PySem.W.codeIn K cd_Board__size "Board.size" = true) (k_Board__size : PySem.W.keepIn K (.ref f_Board__size) = true)
    (a_require_cell : PySem.W.nsIn K mainGlobals "require_cell" = some (some (.ref f_require_cell))) (l_require_cell : K.lookup f_require_cell = some ⟨oc_require_cell, od_require_cell, .func (PySem.W.fnOf "require_cell" "require_cell" (defArgs st_require_cell) (defBody st_require_cell) (defScope st_require_cell) .none kV_require_cell dc_require_cell pm_require_cell an_require_cell cd_require_cell ct_require_cell), sl_require_cell⟩) (c_require_cell : PySem.W.codeIn K cd_require_cell "require_cell" = true) (k_require_cell : PySem.W.keepIn K (.ref f_require_cell) = true)
    (a_Board__is_up : PySem.W.findIn K (.ref c_Board) "is_up" = some (some (.ref f_Board__is_up))) (i_Board__is_up : PySem.W.isFn K (.ref f_Board__is_up) = true) (l_Board__is_up : K.lookup f_Board__is_up = some ⟨oc_Board__is_up, od_Board__is_up, .func (PySem.W.fnOf "is_up" "Board.is_up" (defArgs st_Board__is_up) (defBody st_Board__is_up) (defScope st_Board__is_up) .none kV_Board__is_up dc_Board__is_up pm_Board__is_up an_Board__is_up cd_Board__is_up ct_Board__is_up), sl_Board__is_up⟩) (c_Board__is_up : PySem.W.codeIn K cd_Board__is_up "Board.is_up" = true) (k_Board__is_up : PySem.W.keepIn K (.ref f_Board__is_up) = true)
    (a_Board__parity : PySem.W.findIn K (.ref c_Board) "parity" = some (some (.ref f_Board__parity))) (i_Board__parity : PySem.W.isFn K (.ref f_Board__parity) = true) (l_Board__parity : K.lookup f_Board__parity = some ⟨oc_Board__parity, od_Board__parity, .func (PySem.W.fnOf "parity" "Board.parity" (defArgs st_Board__parity) (defBody st_Board__parity) (defScope st_Board__parity) .none kV_Board__parity dc_Board__parity pm_Board__parity an_Board__parity cd_Board__parity ct_Board__parity), sl_Board__parity⟩) (c_Board__parity : PySem.W.codeIn K cd_Board__parity "Board.parity" = true) (k_Board__parity : PySem.W.keepIn K (.ref f_Board__parity) = true)
    (a_Board__up : PySem.W.findIn K (.ref c_Board) "up" = some (some (.ref f_Board__up))) (i_Board__up : PySem.W.isFn K (.ref f_Board__up) = true) (l_Board__up : K.lookup f_Board__up = some ⟨oc_Board__up, od_Board__up, .func (PySem.W.fnOf "up" "Board.up" (defArgs st_Board__up) (defBody st_Board__up) (defScope st_Board__up) .none kV_Board__up dc_Board__up pm_Board__up an_Board__up cd_Board__up ct_Board__up), sl_Board__up⟩) (c_Board__up : PySem.W.codeIn K cd_Board__up "Board.up" = true) (k_Board__up : PySem.W.keepIn K (.ref f_Board__up) = true)
    (a_law_up : PySem.W.nsIn K mainGlobals "_law_up" = some (some (.ref f_law_up))) (l_law_up : K.lookup f_law_up = some ⟨oc_law_up, od_law_up, .func (PySem.W.fnOf "_law_up" "_law_up" (defArgs st__law_up) (defBody st__law_up) (defScope st__law_up) .none kV_law_up dc_law_up pm_law_up an_law_up cd_law_up ct_law_up), sl_law_up⟩) (c_law_up : PySem.W.codeIn K cd_law_up "_law_up" = true) (k_law_up : PySem.W.keepIn K (.ref f_law_up) = true)
    (a_law_is_so : PySem.W.nsIn K mainGlobals "_law_is_so" = some (some (.ref f_law_is_so))) (l_law_is_so : K.lookup f_law_is_so = some ⟨oc_law_is_so, od_law_is_so, .func (PySem.W.fnOf "_law_is_so" "_law_is_so" (defArgs st__law_is_so) (defBody st__law_is_so) (defScope st__law_is_so) .none kV_law_is_so dc_law_is_so pm_law_is_so an_law_is_so cd_law_is_so ct_law_is_so), sl_law_is_so⟩) (c_law_is_so : PySem.W.codeIn K cd_law_is_so "_law_is_so" = true) (k_law_is_so : PySem.W.keepIn K (.ref f_law_is_so) = true)
    (a_require_fit : PySem.W.nsIn K mainGlobals "require_fit" = some (some (.ref f_require_fit))) (l_require_fit : K.lookup f_require_fit = some ⟨oc_require_fit, od_require_fit, .func (PySem.W.fnOf "require_fit" "require_fit" (defArgs st_require_fit) (defBody st_require_fit) (defScope st_require_fit) .none kV_require_fit dc_require_fit pm_require_fit an_require_fit cd_require_fit ct_require_fit), sl_require_fit⟩) (c_require_fit : PySem.W.codeIn K cd_require_fit "require_fit" = true) (k_require_fit : PySem.W.keepIn K (.ref f_require_fit) = true)
    (a_require_size : PySem.W.nsIn K mainGlobals "require_size" = some (some (.ref f_require_size))) (l_require_size : K.lookup f_require_size = some ⟨oc_require_size, od_require_size, .func (PySem.W.fnOf "require_size" "require_size" (defArgs st_require_size) (defBody st_require_size) (defScope st_require_size) .none kV_require_size dc_require_size pm_require_size an_require_size cd_require_size ct_require_size), sl_require_size⟩) (c_require_size : PySem.W.codeIn K cd_require_size "require_size" = true) (k_require_size : PySem.W.keepIn K (.ref f_require_size) = true)
    (a_Board____init : PySem.W.findIn K (.ref c_Board) "__init__" = some (some (.ref f_Board____init))) (i_Board____init : PySem.W.isFn K (.ref f_Board____init) = true) (l_Board____init : K.lookup f_Board____init = some ⟨oc_Board____init, od_Board____init, .func (PySem.W.fnOf "__init__" "Board.__init__" (defArgs st_Board____init__) (defBody st_Board____init__) (defScope st_Board____init__) .none (.ref kd_Board____init) dc_Board____init pm_Board____init an_Board____init cd_Board____init ct_Board____init), sl_Board____init⟩) (c_Board____init : PySem.W.codeIn K cd_Board____init "Board.__init__" = true) (k_Board____init : PySem.W.keepIn K (.ref f_Board____init) = true)
    (kw_Board____init_0 : PySem.W.nsIn K kd_Board____init "up" = some (some (.ref da_Board____init_0)))
    (kt_Board____init_0 : K.lookup da_Board____init_0 = some ⟨.type "tuple", dd_Board____init_0, .seq #[] dn_Board____init_0, ds_Board____init_0⟩)
    (a_board_of : PySem.W.nsIn K mainGlobals "board_of" = some (some (.ref f_board_of))) (l_board_of : K.lookup f_board_of = some ⟨oc_board_of, od_board_of, .func (PySem.W.fnOf "board_of" "board_of" (defArgs st_board_of) (defBody st_board_of) (defScope st_board_of) .none kV_board_of dc_board_of pm_board_of an_board_of cd_board_of ct_board_of), sl_board_of⟩) (c_board_of : PySem.W.codeIn K cd_board_of "board_of" = true) (k_board_of : PySem.W.keepIn K (.ref f_board_of) = true)
    (a_mask_after : PySem.W.nsIn K mainGlobals "mask_after" = some (some (.ref f_mask_after))) (l_mask_after : K.lookup f_mask_after = some ⟨oc_mask_after, od_mask_after, .func (PySem.W.fnOf "mask_after" "mask_after" (defArgs st_mask_after) (defBody st_mask_after) (defScope st_mask_after) .none kV_mask_after dc_mask_after pm_mask_after an_mask_after cd_mask_after ct_mask_after), sl_mask_after⟩) (c_mask_after : PySem.W.codeIn K cd_mask_after "mask_after" = true) (k_mask_after : PySem.W.keepIn K (.ref f_mask_after) = true)
    (a_apply_flip : PySem.W.nsIn K mainGlobals "apply_flip" = some (some (.ref f_apply_flip))) (l_apply_flip : K.lookup f_apply_flip = some ⟨oc_apply_flip, od_apply_flip, .func (PySem.W.fnOf "apply_flip" "apply_flip" (defArgs st_apply_flip) (defBody st_apply_flip) (defScope st_apply_flip) .none kV_apply_flip dc_apply_flip pm_apply_flip an_apply_flip cd_apply_flip ct_apply_flip), sl_apply_flip⟩) (c_apply_flip : PySem.W.codeIn K cd_apply_flip "apply_flip" = true) (k_apply_flip : PySem.W.keepIn K (.ref f_apply_flip) = true)
    (a_apply_flips : PySem.W.nsIn K mainGlobals "apply_flips" = some (some (.ref f_apply_flips))) (l_apply_flips : K.lookup f_apply_flips = some ⟨oc_apply_flips, od_apply_flips, .func (PySem.W.fnOf "apply_flips" "apply_flips" (defArgs st_apply_flips) (defBody st_apply_flips) (defScope st_apply_flips) .none kV_apply_flips dc_apply_flips pm_apply_flips an_apply_flips cd_apply_flips ct_apply_flips), sl_apply_flips⟩) (c_apply_flips : PySem.W.codeIn K cd_apply_flips "apply_flips" = true) (k_apply_flips : PySem.W.keepIn K (.ref f_apply_flips) = true)
    (a_law_made : PySem.W.nsIn K mainGlobals "_law_made" = some (some (.ref f_law_made))) (l_law_made : K.lookup f_law_made = some ⟨oc_law_made, od_law_made, .func (PySem.W.fnOf "_law_made" "_law_made" (defArgs st__law_made) (defBody st__law_made) (defScope st__law_made) .none kV_law_made dc_law_made pm_law_made an_law_made cd_law_made ct_law_made), sl_law_made⟩) (c_law_made : PySem.W.codeIn K cd_law_made "_law_made" = true) (k_law_made : PySem.W.keepIn K (.ref f_law_made) = true)
    (a_law_right : PySem.W.nsIn K mainGlobals "_law_right" = some (some (.ref f_law_right))) (l_law_right : K.lookup f_law_right = some ⟨oc_law_right, od_law_right, .func (PySem.W.fnOf "_law_right" "_law_right" (defArgs st__law_right) (defBody st__law_right) (defScope st__law_right) .none kV_law_right dc_law_right pm_law_right an_law_right cd_law_right ct_law_right), sl_law_right⟩) (c_law_right : PySem.W.codeIn K cd_law_right "_law_right" = true) (k_law_right : PySem.W.keepIn K (.ref f_law_right) = true)
    (a_law : PySem.W.nsIn K mainGlobals "law" = some (some (.ref f_law))) (l_law : K.lookup f_law = some ⟨oc_law, od_law, .func (PySem.W.fnOf "law" "law" (defArgs st_law) (defBody st_law) (defScope st_law) .none kV_law dc_law pm_law an_law cd_law ct_law), sl_law⟩) (c_law : PySem.W.codeIn K cd_law "law" = true) (k_law : PySem.W.keepIn K (.ref f_law) = true)
    (pg_Board : PySem.W.plainGet K c_Board Str.empty = true)
    (hd_Board : PySem.W.hasDictIn K c_Board = true)
    (po_Board : PySem.W.plainOver K c_Board = true)
    (sa_Board : PySem.W.findIn K (.ref c_Board) "__setattr__" = some (some (.builtin "object.__setattr__")))
    (mk_Board : PySem.W.makesIn K c_Board = true)
    (ca_Board : PySem.W.findIn K (.ref c_Board) "__class__" = some (some (.builtin "object.__class__")))
    (ob_Board : PySem.W.mroIn K c_Board (.type "object") = some true)
    (kC_Board : PySem.W.keepIn K (.ref c_Board) = true)
    (no_Board_own_size : PySem.W.findIn K (.ref c_Board) "own_size" = some none)
    (no_Board_up_mask : PySem.W.findIn K (.ref c_Board) "up_mask" = some none)
    (pg_Flip : PySem.W.plainGet K c_Flip Str.empty = true)
    (hd_Flip : PySem.W.hasDictIn K c_Flip = true)
    (po_Flip : PySem.W.plainOver K c_Flip = true)
    (sa_Flip : PySem.W.findIn K (.ref c_Flip) "__setattr__" = some (some (.builtin "object.__setattr__")))
    (mk_Flip : PySem.W.makesIn K c_Flip = true)
    (ca_Flip : PySem.W.findIn K (.ref c_Flip) "__class__" = some (some (.builtin "object.__class__")))
    (ob_Flip : PySem.W.mroIn K c_Flip (.type "object") = some true)
    (kC_Flip : PySem.W.keepIn K (.ref c_Flip) = true)
    (no_Flip_test_mask : PySem.W.findIn K (.ref c_Flip) "test_mask" = some none)
    (no_Flip_toggle_mask : PySem.W.findIn K (.ref c_Flip) "toggle_mask" = some none)
    (ne_Flip : PySem.W.findIn K (.ref c_Flip) "__ne__" = some (some (.builtin "object.__ne__")))
    (aC_CellError : PySem.W.nsIn K mainGlobals "CellError" = some (some (.ref c_CellError)))
    (aC_LimitError : PySem.W.nsIn K mainGlobals "LimitError" = some (some (.ref c_LimitError)))
    (aC_NoSize : PySem.W.nsIn K mainGlobals "NoSize" = some (some (.ref c_NoSize)))
    (aC_NoCell : PySem.W.nsIn K mainGlobals "NoCell" = some (some (.ref c_NoCell)))
    (aC_NoCells : PySem.W.nsIn K mainGlobals "NoCells" = some (some (.ref c_NoCells)))
    (aC_NoFlip : PySem.W.nsIn K mainGlobals "NoFlip" = some (some (.ref c_NoFlip)))
    (aC_TooWide : PySem.W.nsIn K mainGlobals "TooWide" = some (some (.ref c_TooWide)))
    (ga_CellError : PySem.W.findIn K (.ref c_CellError) "__getattribute__" = some (some (.builtin "BaseException.__getattribute__")))
    (gg_CellError : PySem.W.findIn K (.ref c_CellError) "__getattr__" = some none)
    (eC_CellError : PySem.W.subIn K (.ref c_CellError) (.type "BaseException") = some true)
    (hd_CellError : PySem.W.hasDictIn K c_CellError = true)
    (ic_CellError : PySem.W.isClsIn K c_CellError = true)
    (tC_CellError : PySem.W.typeIn K (.ref c_CellError) = some (.type "type"))
    (ca_CellError : PySem.W.findIn K (.ref c_CellError) "__class__" = some (some (.builtin "object.__class__")))
    (ob_CellError : PySem.W.mroIn K c_CellError (.type "object") = some true)
    (me_CellError : PySem.W.subIn K (.ref c_CellError) (.ref c_CellError) = some true)
    (ga_LimitError : PySem.W.findIn K (.ref c_LimitError) "__getattribute__" = some (some (.builtin "BaseException.__getattribute__")))
    (gg_LimitError : PySem.W.findIn K (.ref c_LimitError) "__getattr__" = some none)
    (eC_LimitError : PySem.W.subIn K (.ref c_LimitError) (.type "BaseException") = some true)
    (hd_LimitError : PySem.W.hasDictIn K c_LimitError = true)
    (ic_LimitError : PySem.W.isClsIn K c_LimitError = true)
    (tC_LimitError : PySem.W.typeIn K (.ref c_LimitError) = some (.type "type"))
    (ca_LimitError : PySem.W.findIn K (.ref c_LimitError) "__class__" = some (some (.builtin "object.__class__")))
    (ob_LimitError : PySem.W.mroIn K c_LimitError (.type "object") = some true)
    (me_LimitError : PySem.W.subIn K (.ref c_LimitError) (.ref c_LimitError) = some true)
    (ga_NoSize : PySem.W.findIn K (.ref c_NoSize) "__getattribute__" = some (some (.builtin "BaseException.__getattribute__")))
    (gg_NoSize : PySem.W.findIn K (.ref c_NoSize) "__getattr__" = some none)
    (eC_NoSize : PySem.W.subIn K (.ref c_NoSize) (.type "BaseException") = some true)
    (hd_NoSize : PySem.W.hasDictIn K c_NoSize = true)
    (ic_NoSize : PySem.W.isClsIn K c_NoSize = true)
    (tC_NoSize : PySem.W.typeIn K (.ref c_NoSize) = some (.type "type"))
    (ca_NoSize : PySem.W.findIn K (.ref c_NoSize) "__class__" = some (some (.builtin "object.__class__")))
    (ob_NoSize : PySem.W.mroIn K c_NoSize (.type "object") = some true)
    (me_NoSize : PySem.W.subIn K (.ref c_NoSize) (.ref c_NoSize) = some true)
    (ga_NoCell : PySem.W.findIn K (.ref c_NoCell) "__getattribute__" = some (some (.builtin "BaseException.__getattribute__")))
    (gg_NoCell : PySem.W.findIn K (.ref c_NoCell) "__getattr__" = some none)
    (eC_NoCell : PySem.W.subIn K (.ref c_NoCell) (.type "BaseException") = some true)
    (hd_NoCell : PySem.W.hasDictIn K c_NoCell = true)
    (ic_NoCell : PySem.W.isClsIn K c_NoCell = true)
    (tC_NoCell : PySem.W.typeIn K (.ref c_NoCell) = some (.type "type"))
    (ca_NoCell : PySem.W.findIn K (.ref c_NoCell) "__class__" = some (some (.builtin "object.__class__")))
    (ob_NoCell : PySem.W.mroIn K c_NoCell (.type "object") = some true)
    (me_NoCell : PySem.W.subIn K (.ref c_NoCell) (.ref c_NoCell) = some true)
    (ga_NoCells : PySem.W.findIn K (.ref c_NoCells) "__getattribute__" = some (some (.builtin "BaseException.__getattribute__")))
    (gg_NoCells : PySem.W.findIn K (.ref c_NoCells) "__getattr__" = some none)
    (eC_NoCells : PySem.W.subIn K (.ref c_NoCells) (.type "BaseException") = some true)
    (hd_NoCells : PySem.W.hasDictIn K c_NoCells = true)
    (ic_NoCells : PySem.W.isClsIn K c_NoCells = true)
    (tC_NoCells : PySem.W.typeIn K (.ref c_NoCells) = some (.type "type"))
    (ca_NoCells : PySem.W.findIn K (.ref c_NoCells) "__class__" = some (some (.builtin "object.__class__")))
    (ob_NoCells : PySem.W.mroIn K c_NoCells (.type "object") = some true)
    (me_NoCells : PySem.W.subIn K (.ref c_NoCells) (.ref c_NoCells) = some true)
    (ga_NoFlip : PySem.W.findIn K (.ref c_NoFlip) "__getattribute__" = some (some (.builtin "BaseException.__getattribute__")))
    (gg_NoFlip : PySem.W.findIn K (.ref c_NoFlip) "__getattr__" = some none)
    (eC_NoFlip : PySem.W.subIn K (.ref c_NoFlip) (.type "BaseException") = some true)
    (hd_NoFlip : PySem.W.hasDictIn K c_NoFlip = true)
    (ic_NoFlip : PySem.W.isClsIn K c_NoFlip = true)
    (tC_NoFlip : PySem.W.typeIn K (.ref c_NoFlip) = some (.type "type"))
    (ca_NoFlip : PySem.W.findIn K (.ref c_NoFlip) "__class__" = some (some (.builtin "object.__class__")))
    (ob_NoFlip : PySem.W.mroIn K c_NoFlip (.type "object") = some true)
    (me_NoFlip : PySem.W.subIn K (.ref c_NoFlip) (.ref c_NoFlip) = some true)
    (ga_TooWide : PySem.W.findIn K (.ref c_TooWide) "__getattribute__" = some (some (.builtin "BaseException.__getattribute__")))
    (gg_TooWide : PySem.W.findIn K (.ref c_TooWide) "__getattr__" = some none)
    (eC_TooWide : PySem.W.subIn K (.ref c_TooWide) (.type "BaseException") = some true)
    (hd_TooWide : PySem.W.hasDictIn K c_TooWide = true)
    (ic_TooWide : PySem.W.isClsIn K c_TooWide = true)
    (tC_TooWide : PySem.W.typeIn K (.ref c_TooWide) = some (.type "type"))
    (ca_TooWide : PySem.W.findIn K (.ref c_TooWide) "__class__" = some (some (.builtin "object.__class__")))
    (ob_TooWide : PySem.W.mroIn K c_TooWide (.type "object") = some true)
    (me_TooWide : PySem.W.subIn K (.ref c_TooWide) (.ref c_TooWide) = some true)
    (rD_CellError : PySem.W.readsIn K c_CellError (.type "type") = true)
    (gD_CellError : PySem.W.specialIn K (.ref c_CellError) "__getattribute__" = some (some (.builtin "type.__getattribute__")))
    (iD_CellError : PySem.W.findCls K (.ref c_CellError) (.type "type") "__init__" = some (.val (.builtin "ValueError.__init__")))
    (rD_LimitError : PySem.W.readsIn K c_LimitError (.type "type") = true)
    (gD_LimitError : PySem.W.specialIn K (.ref c_LimitError) "__getattribute__" = some (some (.builtin "type.__getattribute__")))
    (iD_LimitError : PySem.W.findCls K (.ref c_LimitError) (.type "type") "__init__" = some (.val (.builtin "ArithmeticError.__init__")))
    (xL_NoSize : K.lookup c_NoSize = some (excClassObj nm_NoSize qn_NoSize c_NoSize N_NoSize bs_NoSize (.ref c_CellError :: [.type "ValueError", .type "Exception", .type "BaseException", .type "object"]) true sn_NoSize sb_NoSize ab_NoSize col_NoSize dd_NoSize m0_NoSize m1_NoSize m2_NoSize m3_NoSize m5_NoSize "ValueError.__new__"))
    (sa_NoSize : PySem.W.findIn K (.ref c_NoSize) "__setattr__" = some (some (.builtin "object.__setattr__")))
    (no_NoSize_0 : PySem.W.findIn K (.ref c_NoSize) "value" = some none)
    (iI_NoSize : PySem.W.findIn K (.ref c_NoSize) "__init__" = some (some (.ref fI_NoSize)))
    (tI_NoSize : PySem.W.typeIn K (.ref fI_NoSize) = some (.type "function"))
    (lI_NoSize : K.lookup fI_NoSize = some ⟨oc_NoSize, od_NoSize, .func (PySem.W.fnOf "__init__" "NoSize.__init__" (defArgs st_NoSize) (defBody st_NoSize) (defScope st_NoSize) .none kV_NoSize dc_NoSize pm_NoSize an_NoSize cd_NoSize ct_NoSize), sl_NoSize⟩)
    (cI_NoSize : PySem.W.codeIn K cd_NoSize "NoSize.__init__" = true)
    (kC_NoSize : PySem.W.keepIn K (.ref c_NoSize) = true)
    (xL_NoCell : K.lookup c_NoCell = some (excClassObj nm_NoCell qn_NoCell c_NoCell N_NoCell bs_NoCell (.ref c_CellError :: [.type "ValueError", .type "Exception", .type "BaseException", .type "object"]) true sn_NoCell sb_NoCell ab_NoCell col_NoCell dd_NoCell m0_NoCell m1_NoCell m2_NoCell m3_NoCell m5_NoCell "ValueError.__new__"))
    (sa_NoCell : PySem.W.findIn K (.ref c_NoCell) "__setattr__" = some (some (.builtin "object.__setattr__")))
    (no_NoCell_0 : PySem.W.findIn K (.ref c_NoCell) "cell" = some none)
    (iI_NoCell : PySem.W.findIn K (.ref c_NoCell) "__init__" = some (some (.ref fI_NoCell)))
    (tI_NoCell : PySem.W.typeIn K (.ref fI_NoCell) = some (.type "function"))
    (lI_NoCell : K.lookup fI_NoCell = some ⟨oc_NoCell, od_NoCell, .func (PySem.W.fnOf "__init__" "NoCell.__init__" (defArgs st_NoCell) (defBody st_NoCell) (defScope st_NoCell) .none kV_NoCell dc_NoCell pm_NoCell an_NoCell cd_NoCell ct_NoCell), sl_NoCell⟩)
    (cI_NoCell : PySem.W.codeIn K cd_NoCell "NoCell.__init__" = true)
    (kC_NoCell : PySem.W.keepIn K (.ref c_NoCell) = true)
    (xL_NoCells : K.lookup c_NoCells = some (excClassObj nm_NoCells qn_NoCells c_NoCells N_NoCells bs_NoCells (.ref c_CellError :: [.type "ValueError", .type "Exception", .type "BaseException", .type "object"]) true sn_NoCells sb_NoCells ab_NoCells col_NoCells dd_NoCells m0_NoCells m1_NoCells m2_NoCells m3_NoCells m5_NoCells "ValueError.__new__"))
    (sa_NoCells : PySem.W.findIn K (.ref c_NoCells) "__setattr__" = some (some (.builtin "object.__setattr__")))
    (no_NoCells_0 : PySem.W.findIn K (.ref c_NoCells) "cells" = some none)
    (iI_NoCells : PySem.W.findIn K (.ref c_NoCells) "__init__" = some (some (.ref fI_NoCells)))
    (tI_NoCells : PySem.W.typeIn K (.ref fI_NoCells) = some (.type "function"))
    (lI_NoCells : K.lookup fI_NoCells = some ⟨oc_NoCells, od_NoCells, .func (PySem.W.fnOf "__init__" "NoCells.__init__" (defArgs st_NoCells) (defBody st_NoCells) (defScope st_NoCells) .none kV_NoCells dc_NoCells pm_NoCells an_NoCells cd_NoCells ct_NoCells), sl_NoCells⟩)
    (cI_NoCells : PySem.W.codeIn K cd_NoCells "NoCells.__init__" = true)
    (kC_NoCells : PySem.W.keepIn K (.ref c_NoCells) = true)
    (xL_NoFlip : K.lookup c_NoFlip = some (excClassObj nm_NoFlip qn_NoFlip c_NoFlip N_NoFlip bs_NoFlip (.ref c_CellError :: [.type "ValueError", .type "Exception", .type "BaseException", .type "object"]) true sn_NoFlip sb_NoFlip ab_NoFlip col_NoFlip dd_NoFlip m0_NoFlip m1_NoFlip m2_NoFlip m3_NoFlip m5_NoFlip "ValueError.__new__"))
    (sa_NoFlip : PySem.W.findIn K (.ref c_NoFlip) "__setattr__" = some (some (.builtin "object.__setattr__")))
    (no_NoFlip_0 : PySem.W.findIn K (.ref c_NoFlip) "why" = some none)
    (iI_NoFlip : PySem.W.findIn K (.ref c_NoFlip) "__init__" = some (some (.ref fI_NoFlip)))
    (tI_NoFlip : PySem.W.typeIn K (.ref fI_NoFlip) = some (.type "function"))
    (lI_NoFlip : K.lookup fI_NoFlip = some ⟨oc_NoFlip, od_NoFlip, .func (PySem.W.fnOf "__init__" "NoFlip.__init__" (defArgs st_NoFlip) (defBody st_NoFlip) (defScope st_NoFlip) .none kV_NoFlip dc_NoFlip pm_NoFlip an_NoFlip cd_NoFlip ct_NoFlip), sl_NoFlip⟩)
    (cI_NoFlip : PySem.W.codeIn K cd_NoFlip "NoFlip.__init__" = true)
    (kC_NoFlip : PySem.W.keepIn K (.ref c_NoFlip) = true)
    (xL_TooWide : K.lookup c_TooWide = some (excClassObj nm_TooWide qn_TooWide c_TooWide N_TooWide bs_TooWide (.ref c_LimitError :: [.type "ArithmeticError", .type "Exception", .type "BaseException", .type "object"]) true sn_TooWide sb_TooWide ab_TooWide col_TooWide dd_TooWide m0_TooWide m1_TooWide m2_TooWide m3_TooWide m5_TooWide "ArithmeticError.__new__"))
    (sa_TooWide : PySem.W.findIn K (.ref c_TooWide) "__setattr__" = some (some (.builtin "object.__setattr__")))
    (no_TooWide_0 : PySem.W.findIn K (.ref c_TooWide) "needed" = some none)
    (iI_TooWide : PySem.W.findIn K (.ref c_TooWide) "__init__" = some (some (.ref fI_TooWide)))
    (tI_TooWide : PySem.W.typeIn K (.ref fI_TooWide) = some (.type "function"))
    (lI_TooWide : K.lookup fI_TooWide = some ⟨oc_TooWide, od_TooWide, .func (PySem.W.fnOf "__init__" "TooWide.__init__" (defArgs st_TooWide) (defBody st_TooWide) (defScope st_TooWide) .none kV_TooWide dc_TooWide pm_TooWide an_TooWide cd_TooWide ct_TooWide), sl_TooWide⟩)
    (cI_TooWide : PySem.W.codeIn K cd_TooWide "TooWide.__init__" = true)
    (kC_TooWide : PySem.W.keepIn K (.ref c_TooWide) = true)
    (cq1 : PySem.W.specialIn K (.builtin "object.__class__") "__get__" = some (some (.builtin "getset_descriptor.__get__")))
    (cq2 : PySem.W.takesIn K (.builtin "object.__class__") = some true)
    (z_abs : PySem.W.nsIn K mainGlobals "abs" = some none)
    (z_all : PySem.W.nsIn K mainGlobals "all" = some none)
    (z_bool : PySem.W.nsIn K mainGlobals "bool" = some none)
    (z_divmod : PySem.W.nsIn K mainGlobals "divmod" = some none)
    (z_enumerate : PySem.W.nsIn K mainGlobals "enumerate" = some none)
    (z_int : PySem.W.nsIn K mainGlobals "int" = some none)
    (z_isinstance : PySem.W.nsIn K mainGlobals "isinstance" = some none)
    (z_len : PySem.W.nsIn K mainGlobals "len" = some none)
    (z_list : PySem.W.nsIn K mainGlobals "list" = some none)
    (z_max : PySem.W.nsIn K mainGlobals "max" = some none)
    (z_min : PySem.W.nsIn K mainGlobals "min" = some none)
    (z_range : PySem.W.nsIn K mainGlobals "range" = some none)
    (z_repr : PySem.W.nsIn K mainGlobals "repr" = some none)
    (z_sorted : PySem.W.nsIn K mainGlobals "sorted" = some none)
    (z_str : PySem.W.nsIn K mainGlobals "str" = some none)
    (z_sum : PySem.W.nsIn K mainGlobals "sum" = some none)
    (z_tuple : PySem.W.nsIn K mainGlobals "tuple" = some none)
    (z_zip : PySem.W.nsIn K mainGlobals "zip" = some none)
    (v_MOST_CELLS : PySem.W.nsIn K mainGlobals "MOST_CELLS" = some (some (.int 40 t_MOST_CELLS)))
    : ∃ fd : FuncData, (∀ (s : Shared) (v : Value), BindsTo s fd ⟨[v], []⟩ [("_law_script", v)]) ∧ ∀ base : Heap, K.In base → base.Ns mainGlobals mg → FnG l.prog w K mg base 11 fa fd ["_law_script"] (sp_law K) := by
  obtain rfl : f_law = fa := by
    have e := hfa.symm.trans (PySem.W.mg_of X G a_law)
    cases e
    rfl
  let T : Tx K mg ⟨c_CellError, c_LimitError, c_NoSize, c_NoCell, c_NoCells, c_NoFlip, c_TooWide, c_Board, c_Flip, da_Board____init_0⟩ :=
    { a__law_pot := f_law_pot
      fd__law_pot := (PySem.W.fnOf "_law_pot" "_law_pot" (defArgs st__law_pot) (defBody st__law_pot) (defScope st__law_pot) .none kV_law_pot dc_law_pot pm_law_pot an_law_pot cd_law_pot ct_law_pot)
      F__law_pot := fun_mk (st := st__law_pot) l_law_pot c_law_pot k_law_pot
      g__law_pot := PySem.W.mg_of X G a_law_pot
      a__law_draw := f_law_draw
      fd__law_draw := (PySem.W.fnOf "_law_draw" "_law_draw" (defArgs st__law_draw) (defBody st__law_draw) (defScope st__law_draw) .none kV_law_draw dc_law_draw pm_law_draw an_law_draw cd_law_draw ct_law_draw)
      F__law_draw := fun_mk (st := st__law_draw) l_law_draw c_law_draw k_law_draw
      g__law_draw := PySem.W.mg_of X G a_law_draw
      a__law_width := f_law_width
      fd__law_width := (PySem.W.fnOf "_law_width" "_law_width" (defArgs st__law_width) (defBody st__law_width) (defScope st__law_width) .none kV_law_width dc_law_width pm_law_width an_law_width cd_law_width ct_law_width)
      F__law_width := fun_mk (st := st__law_width) l_law_width c_law_width k_law_width
      g__law_width := PySem.W.mg_of X G a_law_width
      a__law_all_bits := f_law_all_bits
      fd__law_all_bits := (PySem.W.fnOf "_law_all_bits" "_law_all_bits" (defArgs st__law_all_bits) (defBody st__law_all_bits) (defScope st__law_all_bits) .none kV_law_all_bits dc_law_all_bits pm_law_all_bits an_law_all_bits cd_law_all_bits ct_law_all_bits)
      F__law_all_bits := fun_mk (st := st__law_all_bits) l_law_all_bits c_law_all_bits k_law_all_bits
      g__law_all_bits := PySem.W.mg_of X G a_law_all_bits
      a__law_bits := f_law_bits
      fd__law_bits := (PySem.W.fnOf "_law_bits" "_law_bits" (defArgs st__law_bits) (defBody st__law_bits) (defScope st__law_bits) .none kV_law_bits dc_law_bits pm_law_bits an_law_bits cd_law_bits ct_law_bits)
      F__law_bits := fun_mk (st := st__law_bits) l_law_bits c_law_bits k_law_bits
      g__law_bits := PySem.W.mg_of X G a_law_bits
      a__law_spots := f_law_spots
      fd__law_spots := (PySem.W.fnOf "_law_spots" "_law_spots" (defArgs st__law_spots) (defBody st__law_spots) (defScope st__law_spots) .none kV_law_spots dc_law_spots pm_law_spots an_law_spots cd_law_spots ct_law_spots)
      F__law_spots := fun_mk (st := st__law_spots) l_law_spots c_law_spots k_law_spots
      g__law_spots := PySem.W.mg_of X G a_law_spots
      a__law_pair := f_law_pair
      fd__law_pair := (PySem.W.fnOf "_law_pair" "_law_pair" (defArgs st__law_pair) (defBody st__law_pair) (defScope st__law_pair) .none kV_law_pair dc_law_pair pm_law_pair an_law_pair cd_law_pair ct_law_pair)
      F__law_pair := fun_mk (st := st__law_pair) l_law_pair c_law_pair k_law_pair
      g__law_pair := PySem.W.mg_of X G a_law_pair
      a_mask_of_cells := f_mask_of_cells
      fd_mask_of_cells := (PySem.W.fnOf "mask_of" "mask_of" (defArgs st_mask_of_cells) (defBody st_mask_of_cells) (defScope st_mask_of_cells) .none kV_mask_of_cells dc_mask_of_cells pm_mask_of_cells an_mask_of_cells cd_mask_of_cells ct_mask_of_cells)
      F_mask_of_cells := fun_mk (st := st_mask_of_cells) l_mask_of_cells c_mask_of_cells k_mask_of_cells
      g_mask_of_cells := PySem.W.mg_of X G a_mask_of_cells
      a_is_integer_in := f_is_integer_in
      fd_is_integer_in := (PySem.W.fnOf "is_integer_in" "is_integer_in" (defArgs st_is_integer_in) (defBody st_is_integer_in) (defScope st_is_integer_in) .none kV_is_integer_in dc_is_integer_in pm_is_integer_in an_is_integer_in cd_is_integer_in ct_is_integer_in)
      F_is_integer_in := fun_mk (st := st_is_integer_in) l_is_integer_in c_is_integer_in k_is_integer_in
      g_is_integer_in := PySem.W.mg_of X G a_is_integer_in
      a_is_cell := f_is_cell
      fd_is_cell := (PySem.W.fnOf "is_cell" "is_cell" (defArgs st_is_cell) (defBody st_is_cell) (defScope st_is_cell) .none (.ref kd_is_cell) dc_is_cell pm_is_cell an_is_cell cd_is_cell ct_is_cell)
      F_is_cell := fun_mk (st := st_is_cell) l_is_cell c_is_cell k_is_cell
      g_is_cell := PySem.W.mg_of X G a_is_cell
      D_is_cell := funD_of (st := st_is_cell) l_is_cell c_is_cell k_is_cell (by simpa using ⟨_, kw_is_cell_0, _, rfl⟩)
      a_cell_tuple := f_cell_tuple
      fd_cell_tuple := (PySem.W.fnOf "cell_tuple" "cell_tuple" (defArgs st_cell_tuple) (defBody st_cell_tuple) (defScope st_cell_tuple) .none (.ref kd_cell_tuple) dc_cell_tuple pm_cell_tuple an_cell_tuple cd_cell_tuple ct_cell_tuple)
      F_cell_tuple := fun_mk (st := st_cell_tuple) l_cell_tuple c_cell_tuple k_cell_tuple
      g_cell_tuple := PySem.W.mg_of X G a_cell_tuple
      D_cell_tuple := funD_of (st := st_cell_tuple) l_cell_tuple c_cell_tuple k_cell_tuple (by simpa using ⟨_, kw_cell_tuple_0, _, rfl⟩)
      a_cell_mask := f_cell_mask
      fd_cell_mask := (PySem.W.fnOf "cell_mask" "cell_mask" (defArgs st_cell_mask) (defBody st_cell_mask) (defScope st_cell_mask) .none kV_cell_mask dc_cell_mask pm_cell_mask an_cell_mask cd_cell_mask ct_cell_mask)
      F_cell_mask := fun_mk (st := st_cell_mask) l_cell_mask c_cell_mask k_cell_mask
      g_cell_mask := PySem.W.mg_of X G a_cell_mask
      a_is_odd_cells := f_is_odd_cells
      fd_is_odd_cells := (PySem.W.fnOf "is_odd" "is_odd" (defArgs st_is_odd_cells) (defBody st_is_odd_cells) (defScope st_is_odd_cells) .none kV_is_odd_cells dc_is_odd_cells pm_is_odd_cells an_is_odd_cells cd_is_odd_cells ct_is_odd_cells)
      F_is_odd_cells := fun_mk (st := st_is_odd_cells) l_is_odd_cells c_is_odd_cells k_is_odd_cells
      g_is_odd_cells := PySem.W.mg_of X G a_is_odd_cells
      a_Flip____init__ := f_Flip____init
      fd_Flip____init__ := (PySem.W.fnOf "__init__" "Flip.__init__" (defArgs st_Flip____init__) (defBody st_Flip____init__) (defScope st_Flip____init__) .none kV_Flip____init dc_Flip____init pm_Flip____init an_Flip____init cd_Flip____init ct_Flip____init)
      F_Flip____init__ := fun_mk (st := st_Flip____init__) l_Flip____init c_Flip____init k_Flip____init
      mk_Flip := ⟨mk_Flip, a_Flip____init, i_Flip____init, kC_Flip⟩
      a__law_flip_of := f_law_flip_of
      fd__law_flip_of := (PySem.W.fnOf "_law_flip_of" "_law_flip_of" (defArgs st__law_flip_of) (defBody st__law_flip_of) (defScope st__law_flip_of) .none kV_law_flip_of dc_law_flip_of pm_law_flip_of an_law_flip_of cd_law_flip_of ct_law_flip_of)
      F__law_flip_of := fun_mk (st := st__law_flip_of) l_law_flip_of c_law_flip_of k_law_flip_of
      g__law_flip_of := PySem.W.mg_of X G a_law_flip_of
      a__law_added := f_law_added
      fd__law_added := (PySem.W.fnOf "_law_added" "_law_added" (defArgs st__law_added) (defBody st__law_added) (defScope st__law_added) .none kV_law_added dc_law_added pm_law_added an_law_added cd_law_added ct_law_added)
      F__law_added := fun_mk (st := st__law_added) l_law_added c_law_added k_law_added
      g__law_added := PySem.W.mg_of X G a_law_added
      a__law_past := f_law_past
      fd__law_past := (PySem.W.fnOf "_law_past" "_law_past" (defArgs st__law_past) (defBody st__law_past) (defScope st__law_past) .none kV_law_past dc_law_past pm_law_past an_law_past cd_law_past ct_law_past)
      F__law_past := fun_mk (st := st__law_past) l_law_past c_law_past k_law_past
      g__law_past := PySem.W.mg_of X G a_law_past
      a__law_pair_past := f_law_pair_past
      fd__law_pair_past := (PySem.W.fnOf "_law_pair_past" "_law_pair_past" (defArgs st__law_pair_past) (defBody st__law_pair_past) (defScope st__law_pair_past) .none kV_law_pair_past dc_law_pair_past pm_law_pair_past an_law_pair_past cd_law_pair_past ct_law_pair_past)
      F__law_pair_past := fun_mk (st := st__law_pair_past) l_law_pair_past c_law_pair_past k_law_pair_past
      g__law_pair_past := PySem.W.mg_of X G a_law_pair_past
      a_cells_in_cells := f_cells_in_cells
      fd_cells_in_cells := (PySem.W.fnOf "cells_in" "cells_in" (defArgs st_cells_in_cells) (defBody st_cells_in_cells) (defScope st_cells_in_cells) .none kV_cells_in_cells dc_cells_in_cells pm_cells_in_cells an_cells_in_cells cd_cells_in_cells ct_cells_in_cells)
      F_cells_in_cells := fun_mk (st := st_cells_in_cells) l_cells_in_cells c_cells_in_cells k_cells_in_cells
      g_cells_in_cells := PySem.W.mg_of X G a_cells_in_cells
      a_Flip__toggled := f_Flip__toggled
      fd_Flip__toggled := (PySem.W.fnOf "toggled" "Flip.toggled" (defArgs st_Flip__toggled) (defBody st_Flip__toggled) (defScope st_Flip__toggled) .none kV_Flip__toggled dc_Flip__toggled pm_Flip__toggled an_Flip__toggled cd_Flip__toggled ct_Flip__toggled)
      F_Flip__toggled := fun_mk (st := st_Flip__toggled) l_Flip__toggled c_Flip__toggled k_Flip__toggled
      m_Flip__toggled := ⟨a_Flip__toggled, i_Flip__toggled, k_Flip__toggled⟩
      a_Flip__tested := f_Flip__tested
      fd_Flip__tested := (PySem.W.fnOf "tested" "Flip.tested" (defArgs st_Flip__tested) (defBody st_Flip__tested) (defScope st_Flip__tested) .none kV_Flip__tested dc_Flip__tested pm_Flip__tested an_Flip__tested cd_Flip__tested ct_Flip__tested)
      F_Flip__tested := fun_mk (st := st_Flip__tested) l_Flip__tested c_Flip__tested k_Flip__tested
      m_Flip__tested := ⟨a_Flip__tested, i_Flip__tested, k_Flip__tested⟩
      a_Flip____repr__ := f_Flip____repr
      fd_Flip____repr__ := (PySem.W.fnOf "__repr__" "Flip.__repr__" (defArgs st_Flip____repr__) (defBody st_Flip____repr__) (defScope st_Flip____repr__) .none kV_Flip____repr dc_Flip____repr pm_Flip____repr an_Flip____repr cd_Flip____repr ct_Flip____repr)
      F_Flip____repr__ := fun_mk (st := st_Flip____repr__) l_Flip____repr c_Flip____repr k_Flip____repr
      m_Flip____repr__ := ⟨a_Flip____repr, i_Flip____repr, k_Flip____repr⟩
      a_mask_text := f_mask_text
      fd_mask_text := (PySem.W.fnOf "mask_text" "mask_text" (defArgs st_mask_text) (defBody st_mask_text) (defScope st_mask_text) .none kV_mask_text dc_mask_text pm_mask_text an_mask_text cd_mask_text ct_mask_text)
      F_mask_text := fun_mk (st := st_mask_text) l_mask_text c_mask_text k_mask_text
      g_mask_text := PySem.W.mg_of X G a_mask_text
      a_Flip____str__ := f_Flip____str
      fd_Flip____str__ := (PySem.W.fnOf "__str__" "Flip.__str__" (defArgs st_Flip____str__) (defBody st_Flip____str__) (defScope st_Flip____str__) .none kV_Flip____str dc_Flip____str pm_Flip____str an_Flip____str cd_Flip____str ct_Flip____str)
      F_Flip____str__ := fun_mk (st := st_Flip____str__) l_Flip____str c_Flip____str k_Flip____str
      m_Flip____str__ := ⟨a_Flip____str, i_Flip____str, k_Flip____str⟩
      a__law_text_of := f_law_text_of
      fd__law_text_of := (PySem.W.fnOf "_law_text_of" "_law_text_of" (defArgs st__law_text_of) (defBody st__law_text_of) (defScope st__law_text_of) .none kV_law_text_of dc_law_text_of pm_law_text_of an_law_text_of cd_law_text_of ct_law_text_of)
      F__law_text_of := fun_mk (st := st__law_text_of) l_law_text_of c_law_text_of k_law_text_of
      g__law_text_of := PySem.W.mg_of X G a_law_text_of
      a__law_pair_text := f_law_pair_text
      fd__law_pair_text := (PySem.W.fnOf "_law_pair_text" "_law_pair_text" (defArgs st__law_pair_text) (defBody st__law_pair_text) (defScope st__law_pair_text) .none kV_law_pair_text dc_law_pair_text pm_law_pair_text an_law_pair_text cd_law_pair_text ct_law_pair_text)
      F__law_pair_text := fun_mk (st := st__law_pair_text) l_law_pair_text c_law_pair_text k_law_pair_text
      g__law_pair_text := PySem.W.mg_of X G a_law_pair_text
      a__law_written := f_law_written
      fd__law_written := (PySem.W.fnOf "_law_written" "_law_written" (defArgs st__law_written) (defBody st__law_written) (defScope st__law_written) .none kV_law_written dc_law_written pm_law_written an_law_written cd_law_written ct_law_written)
      F__law_written := fun_mk (st := st__law_written) l_law_written c_law_written k_law_written
      g__law_written := PySem.W.mg_of X G a_law_written
      a_mask_of_sequences := f_mask_of_sequences
      fd_mask_of_sequences := (PySem.W.fnOf "mask_of" "mask_of" (defArgs st_mask_of_sequences) (defBody st_mask_of_sequences) (defScope st_mask_of_sequences) .none kV_mask_of_sequences dc_mask_of_sequences pm_mask_of_sequences an_mask_of_sequences cd_mask_of_sequences ct_mask_of_sequences)
      F_mask_of_sequences := fun_mk (st := st_mask_of_sequences) l_mask_of_sequences c_mask_of_sequences k_mask_of_sequences
      g_mask_of_sequences := PySem.W.mg_of X G a_mask_of_sequences
      a_cells_in_sequences := f_cells_in_sequences
      fd_cells_in_sequences := (PySem.W.fnOf "cells_in" "cells_in" (defArgs st_cells_in_sequences) (defBody st_cells_in_sequences) (defScope st_cells_in_sequences) .none kV_cells_in_sequences dc_cells_in_sequences pm_cells_in_sequences an_cells_in_sequences cd_cells_in_sequences ct_cells_in_sequences)
      F_cells_in_sequences := fun_mk (st := st_cells_in_sequences) l_cells_in_sequences c_cells_in_sequences k_cells_in_sequences
      g_cells_in_sequences := PySem.W.mg_of X G a_cells_in_sequences
      a_is_odd_sequences := f_is_odd_sequences
      fd_is_odd_sequences := (PySem.W.fnOf "is_odd" "is_odd" (defArgs st_is_odd_sequences) (defBody st_is_odd_sequences) (defScope st_is_odd_sequences) .none kV_is_odd_sequences dc_is_odd_sequences pm_is_odd_sequences an_is_odd_sequences cd_is_odd_sequences ct_is_odd_sequences)
      F_is_odd_sequences := fun_mk (st := st_is_odd_sequences) l_is_odd_sequences c_is_odd_sequences k_is_odd_sequences
      g_is_odd_sequences := PySem.W.mg_of X G a_is_odd_sequences
      a_mask_past := f_mask_past
      fd_mask_past := (PySem.W.fnOf "mask_past" "mask_past" (defArgs st_mask_past) (defBody st_mask_past) (defScope st_mask_past) .none kV_mask_past dc_mask_past pm_mask_past an_mask_past cd_mask_past ct_mask_past)
      F_mask_past := fun_mk (st := st_mask_past) l_mask_past c_mask_past k_mask_past
      g_mask_past := PySem.W.mg_of X G a_mask_past
      a_moved_past := f_moved_past
      fd_moved_past := (PySem.W.fnOf "moved_past" "moved_past" (defArgs st_moved_past) (defBody st_moved_past) (defScope st_moved_past) .none kV_moved_past dc_moved_past pm_moved_past an_moved_past cd_moved_past ct_moved_past)
      F_moved_past := fun_mk (st := st_moved_past) l_moved_past c_moved_past k_moved_past
      g_moved_past := PySem.W.mg_of X G a_moved_past
      a_Flip____eq__ := f_Flip____eq
      fd_Flip____eq__ := (PySem.W.fnOf "__eq__" "Flip.__eq__" (defArgs st_Flip____eq__) (defBody st_Flip____eq__) (defScope st_Flip____eq__) .none kV_Flip____eq dc_Flip____eq pm_Flip____eq an_Flip____eq cd_Flip____eq ct_Flip____eq)
      F_Flip____eq__ := fun_mk (st := st_Flip____eq__) l_Flip____eq c_Flip____eq k_Flip____eq
      m_Flip____eq__ := ⟨a_Flip____eq, i_Flip____eq, k_Flip____eq⟩
      a_Flip__is_idle := f_Flip__is_idle
      fd_Flip__is_idle := (PySem.W.fnOf "is_idle" "Flip.is_idle" (defArgs st_Flip__is_idle) (defBody st_Flip__is_idle) (defScope st_Flip__is_idle) .none kV_Flip__is_idle dc_Flip__is_idle pm_Flip__is_idle an_Flip__is_idle cd_Flip__is_idle ct_Flip__is_idle)
      F_Flip__is_idle := fun_mk (st := st_Flip__is_idle) l_Flip__is_idle c_Flip__is_idle k_Flip__is_idle
      m_Flip__is_idle := ⟨a_Flip__is_idle, i_Flip__is_idle, k_Flip__is_idle⟩
      a_Flip__width := f_Flip__width
      fd_Flip__width := (PySem.W.fnOf "width" "Flip.width" (defArgs st_Flip__width) (defBody st_Flip__width) (defScope st_Flip__width) .none kV_Flip__width dc_Flip__width pm_Flip__width an_Flip__width cd_Flip__width ct_Flip__width)
      F_Flip__width := fun_mk (st := st_Flip__width) l_Flip__width c_Flip__width k_Flip__width
      m_Flip__width := ⟨a_Flip__width, i_Flip__width, k_Flip__width⟩
      a__law_is_pair := f_law_is_pair
      fd__law_is_pair := (PySem.W.fnOf "_law_is_pair" "_law_is_pair" (defArgs st__law_is_pair) (defBody st__law_is_pair) (defScope st__law_is_pair) .none kV_law_is_pair dc_law_is_pair pm_law_is_pair an_law_is_pair cd_law_is_pair ct_law_is_pair)
      F__law_is_pair := fun_mk (st := st__law_is_pair) l_law_is_pair c_law_is_pair k_law_is_pair
      g__law_is_pair := PySem.W.mg_of X G a_law_is_pair
      a__law_parity := f_law_parity
      fd__law_parity := (PySem.W.fnOf "_law_parity" "_law_parity" (defArgs st__law_parity) (defBody st__law_parity) (defScope st__law_parity) .none kV_law_parity dc_law_parity pm_law_parity an_law_parity cd_law_parity ct_law_parity)
      F__law_parity := fun_mk (st := st__law_parity) l_law_parity c_law_parity k_law_parity
      g__law_parity := PySem.W.mg_of X G a_law_parity
      a__law_after := f_law_after
      fd__law_after := (PySem.W.fnOf "_law_after" "_law_after" (defArgs st__law_after) (defBody st__law_after) (defScope st__law_after) .none kV_law_after dc_law_after pm_law_after an_law_after cd_law_after ct_law_after)
      F__law_after := fun_mk (st := st__law_after) l_law_after c_law_after k_law_after
      g__law_after := PySem.W.mg_of X G a_law_after
      a__law_after_all := f_law_after_all
      fd__law_after_all := (PySem.W.fnOf "_law_after_all" "_law_after_all" (defArgs st__law_after_all) (defBody st__law_after_all) (defScope st__law_after_all) .none kV_law_after_all dc_law_after_all pm_law_after_all an_law_after_all cd_law_after_all ct_law_after_all)
      F__law_after_all := fun_mk (st := st__law_after_all) l_law_after_all c_law_after_all k_law_after_all
      g__law_after_all := PySem.W.mg_of X G a_law_after_all
      a_Board__size := f_Board__size
      fd_Board__size := (PySem.W.fnOf "size" "Board.size" (defArgs st_Board__size) (defBody st_Board__size) (defScope st_Board__size) .none kV_Board__size dc_Board__size pm_Board__size an_Board__size cd_Board__size ct_Board__size)
      F_Board__size := fun_mk (st := st_Board__size) l_Board__size c_Board__size k_Board__size
      m_Board__size := ⟨a_Board__size, i_Board__size, k_Board__size⟩
      a_require_cell := f_require_cell
      fd_require_cell := (PySem.W.fnOf "require_cell" "require_cell" (defArgs st_require_cell) (defBody st_require_cell) (defScope st_require_cell) .none kV_require_cell dc_require_cell pm_require_cell an_require_cell cd_require_cell ct_require_cell)
      F_require_cell := fun_mk (st := st_require_cell) l_require_cell c_require_cell k_require_cell
      g_require_cell := PySem.W.mg_of X G a_require_cell
      a_Board__is_up := f_Board__is_up
      fd_Board__is_up := (PySem.W.fnOf "is_up" "Board.is_up" (defArgs st_Board__is_up) (defBody st_Board__is_up) (defScope st_Board__is_up) .none kV_Board__is_up dc_Board__is_up pm_Board__is_up an_Board__is_up cd_Board__is_up ct_Board__is_up)
      F_Board__is_up := fun_mk (st := st_Board__is_up) l_Board__is_up c_Board__is_up k_Board__is_up
      m_Board__is_up := ⟨a_Board__is_up, i_Board__is_up, k_Board__is_up⟩
      a_Board__parity := f_Board__parity
      fd_Board__parity := (PySem.W.fnOf "parity" "Board.parity" (defArgs st_Board__parity) (defBody st_Board__parity) (defScope st_Board__parity) .none kV_Board__parity dc_Board__parity pm_Board__parity an_Board__parity cd_Board__parity ct_Board__parity)
      F_Board__parity := fun_mk (st := st_Board__parity) l_Board__parity c_Board__parity k_Board__parity
      m_Board__parity := ⟨a_Board__parity, i_Board__parity, k_Board__parity⟩
      a_Board__up := f_Board__up
      fd_Board__up := (PySem.W.fnOf "up" "Board.up" (defArgs st_Board__up) (defBody st_Board__up) (defScope st_Board__up) .none kV_Board__up dc_Board__up pm_Board__up an_Board__up cd_Board__up ct_Board__up)
      F_Board__up := fun_mk (st := st_Board__up) l_Board__up c_Board__up k_Board__up
      m_Board__up := ⟨a_Board__up, i_Board__up, k_Board__up⟩
      a__law_up := f_law_up
      fd__law_up := (PySem.W.fnOf "_law_up" "_law_up" (defArgs st__law_up) (defBody st__law_up) (defScope st__law_up) .none kV_law_up dc_law_up pm_law_up an_law_up cd_law_up ct_law_up)
      F__law_up := fun_mk (st := st__law_up) l_law_up c_law_up k_law_up
      g__law_up := PySem.W.mg_of X G a_law_up
      a__law_is_so := f_law_is_so
      fd__law_is_so := (PySem.W.fnOf "_law_is_so" "_law_is_so" (defArgs st__law_is_so) (defBody st__law_is_so) (defScope st__law_is_so) .none kV_law_is_so dc_law_is_so pm_law_is_so an_law_is_so cd_law_is_so ct_law_is_so)
      F__law_is_so := fun_mk (st := st__law_is_so) l_law_is_so c_law_is_so k_law_is_so
      g__law_is_so := PySem.W.mg_of X G a_law_is_so
      a_require_fit := f_require_fit
      fd_require_fit := (PySem.W.fnOf "require_fit" "require_fit" (defArgs st_require_fit) (defBody st_require_fit) (defScope st_require_fit) .none kV_require_fit dc_require_fit pm_require_fit an_require_fit cd_require_fit ct_require_fit)
      F_require_fit := fun_mk (st := st_require_fit) l_require_fit c_require_fit k_require_fit
      g_require_fit := PySem.W.mg_of X G a_require_fit
      a_require_size := f_require_size
      fd_require_size := (PySem.W.fnOf "require_size" "require_size" (defArgs st_require_size) (defBody st_require_size) (defScope st_require_size) .none kV_require_size dc_require_size pm_require_size an_require_size cd_require_size ct_require_size)
      F_require_size := fun_mk (st := st_require_size) l_require_size c_require_size k_require_size
      g_require_size := PySem.W.mg_of X G a_require_size
      a_Board____init__ := f_Board____init
      fd_Board____init__ := (PySem.W.fnOf "__init__" "Board.__init__" (defArgs st_Board____init__) (defBody st_Board____init__) (defScope st_Board____init__) .none (.ref kd_Board____init) dc_Board____init pm_Board____init an_Board____init cd_Board____init ct_Board____init)
      F_Board____init__ := fun_mk (st := st_Board____init__) l_Board____init c_Board____init k_Board____init
      mk_Board := ⟨mk_Board, a_Board____init, i_Board____init, kC_Board⟩
      dt_Board____init___up := .inr ⟨_, #[], _, kt_Board____init_0, rfl, rfl, Nat.zero_le _, .nil⟩
      D_Board____init__ := funD_of (st := st_Board____init__) l_Board____init c_Board____init k_Board____init (by simpa using ⟨_, kw_Board____init_0, rfl⟩)
      a_board_of := f_board_of
      fd_board_of := (PySem.W.fnOf "board_of" "board_of" (defArgs st_board_of) (defBody st_board_of) (defScope st_board_of) .none kV_board_of dc_board_of pm_board_of an_board_of cd_board_of ct_board_of)
      F_board_of := fun_mk (st := st_board_of) l_board_of c_board_of k_board_of
      g_board_of := PySem.W.mg_of X G a_board_of
      a_mask_after := f_mask_after
      fd_mask_after := (PySem.W.fnOf "mask_after" "mask_after" (defArgs st_mask_after) (defBody st_mask_after) (defScope st_mask_after) .none kV_mask_after dc_mask_after pm_mask_after an_mask_after cd_mask_after ct_mask_after)
      F_mask_after := fun_mk (st := st_mask_after) l_mask_after c_mask_after k_mask_after
      g_mask_after := PySem.W.mg_of X G a_mask_after
      a_apply_flip := f_apply_flip
      fd_apply_flip := (PySem.W.fnOf "apply_flip" "apply_flip" (defArgs st_apply_flip) (defBody st_apply_flip) (defScope st_apply_flip) .none kV_apply_flip dc_apply_flip pm_apply_flip an_apply_flip cd_apply_flip ct_apply_flip)
      F_apply_flip := fun_mk (st := st_apply_flip) l_apply_flip c_apply_flip k_apply_flip
      g_apply_flip := PySem.W.mg_of X G a_apply_flip
      a_apply_flips := f_apply_flips
      fd_apply_flips := (PySem.W.fnOf "apply_flips" "apply_flips" (defArgs st_apply_flips) (defBody st_apply_flips) (defScope st_apply_flips) .none kV_apply_flips dc_apply_flips pm_apply_flips an_apply_flips cd_apply_flips ct_apply_flips)
      F_apply_flips := fun_mk (st := st_apply_flips) l_apply_flips c_apply_flips k_apply_flips
      g_apply_flips := PySem.W.mg_of X G a_apply_flips
      a__law_made := f_law_made
      fd__law_made := (PySem.W.fnOf "_law_made" "_law_made" (defArgs st__law_made) (defBody st__law_made) (defScope st__law_made) .none kV_law_made dc_law_made pm_law_made an_law_made cd_law_made ct_law_made)
      F__law_made := fun_mk (st := st__law_made) l_law_made c_law_made k_law_made
      g__law_made := PySem.W.mg_of X G a_law_made
      a__law_right := f_law_right
      fd__law_right := (PySem.W.fnOf "_law_right" "_law_right" (defArgs st__law_right) (defBody st__law_right) (defScope st__law_right) .none kV_law_right dc_law_right pm_law_right an_law_right cd_law_right ct_law_right)
      F__law_right := fun_mk (st := st__law_right) l_law_right c_law_right k_law_right
      g__law_right := PySem.W.mg_of X G a_law_right
      a_law := f_law
      fd_law := (PySem.W.fnOf "law" "law" (defArgs st_law) (defBody st_law) (defScope st_law) .none kV_law dc_law pm_law an_law cd_law ct_law)
      F_law := fun_mk (st := st_law) l_law c_law k_law
      g_law := PySem.W.mg_of X G a_law
      gc_Board := PySem.W.mg_of X G aC_Board
      cls_Board := ⟨pg_Board, hd_Board, po_Board, sa_Board⟩
      ty_Board := ⟨ca_Board, ob_Board⟩
      no_Board_own_size := no_Board_own_size
      no_Board_up_mask := no_Board_up_mask
      gc_Flip := PySem.W.mg_of X G aC_Flip
      cls_Flip := ⟨pg_Flip, hd_Flip, po_Flip, sa_Flip⟩
      ty_Flip := ⟨ca_Flip, ob_Flip⟩
      no_Flip_test_mask := no_Flip_test_mask
      no_Flip_toggle_mask := no_Flip_toggle_mask
      eq_Flip := ⟨a_Flip____eq, i_Flip____eq, ne_Flip⟩
      q_CellError := ⟨ga_CellError, gg_CellError, eC_CellError, hd_CellError, ic_CellError, tC_CellError, ca_CellError, ob_CellError, me_CellError⟩
      q_LimitError := ⟨ga_LimitError, gg_LimitError, eC_LimitError, hd_LimitError, ic_LimitError, tC_LimitError, ca_LimitError, ob_LimitError, me_LimitError⟩
      q_NoSize := ⟨ga_NoSize, gg_NoSize, eC_NoSize, hd_NoSize, ic_NoSize, tC_NoSize, ca_NoSize, ob_NoSize, me_NoSize⟩
      q_NoCell := ⟨ga_NoCell, gg_NoCell, eC_NoCell, hd_NoCell, ic_NoCell, tC_NoCell, ca_NoCell, ob_NoCell, me_NoCell⟩
      q_NoCells := ⟨ga_NoCells, gg_NoCells, eC_NoCells, hd_NoCells, ic_NoCells, tC_NoCells, ca_NoCells, ob_NoCells, me_NoCells⟩
      q_NoFlip := ⟨ga_NoFlip, gg_NoFlip, eC_NoFlip, hd_NoFlip, ic_NoFlip, tC_NoFlip, ca_NoFlip, ob_NoFlip, me_NoFlip⟩
      q_TooWide := ⟨ga_TooWide, gg_TooWide, eC_TooWide, hd_TooWide, ic_TooWide, tC_TooWide, ca_TooWide, ob_TooWide, me_TooWide⟩
      g_CellError := PySem.W.mg_of X G aC_CellError
      g_LimitError := PySem.W.mg_of X G aC_LimitError
      f_NoSize := fI_NoSize
      e_NoSize := { bb := eb_value, gC := PySem.W.mg_of X G aC_NoSize, gD := PySem.W.mg_of X G aC_CellError, cls := ⟨_, _, _, _, _, _, _, _, _, _, _, _, _, _, xL_NoSize⟩, sa := sa_NoSize, noF := by intro y hy; rcases (by simpa using hy : y = "value") with rfl; exact no_NoSize_0, iC := iI_NoSize, tI := tI_NoSize, kC := kC_NoSize, eC := eC_NoSize, tC := tC_NoSize, rD := rD_CellError, gaD := gD_CellError, iD := iD_CellError, fn := ⟨"NoSize.__init__", _, _, _, _, _, _, _, _, _, lI_NoSize, cI_NoSize, d_NoSize⟩ }
      f_NoCell := fI_NoCell
      e_NoCell := { bb := eb_value, gC := PySem.W.mg_of X G aC_NoCell, gD := PySem.W.mg_of X G aC_CellError, cls := ⟨_, _, _, _, _, _, _, _, _, _, _, _, _, _, xL_NoCell⟩, sa := sa_NoCell, noF := by intro y hy; rcases (by simpa using hy : y = "cell") with rfl; exact no_NoCell_0, iC := iI_NoCell, tI := tI_NoCell, kC := kC_NoCell, eC := eC_NoCell, tC := tC_NoCell, rD := rD_CellError, gaD := gD_CellError, iD := iD_CellError, fn := ⟨"NoCell.__init__", _, _, _, _, _, _, _, _, _, lI_NoCell, cI_NoCell, d_NoCell⟩ }
      f_NoCells := fI_NoCells
      e_NoCells := { bb := eb_value, gC := PySem.W.mg_of X G aC_NoCells, gD := PySem.W.mg_of X G aC_CellError, cls := ⟨_, _, _, _, _, _, _, _, _, _, _, _, _, _, xL_NoCells⟩, sa := sa_NoCells, noF := by intro y hy; rcases (by simpa using hy : y = "cells") with rfl; exact no_NoCells_0, iC := iI_NoCells, tI := tI_NoCells, kC := kC_NoCells, eC := eC_NoCells, tC := tC_NoCells, rD := rD_CellError, gaD := gD_CellError, iD := iD_CellError, fn := ⟨"NoCells.__init__", _, _, _, _, _, _, _, _, _, lI_NoCells, cI_NoCells, d_NoCells⟩ }
      f_NoFlip := fI_NoFlip
      e_NoFlip := { bb := eb_value, gC := PySem.W.mg_of X G aC_NoFlip, gD := PySem.W.mg_of X G aC_CellError, cls := ⟨_, _, _, _, _, _, _, _, _, _, _, _, _, _, xL_NoFlip⟩, sa := sa_NoFlip, noF := by intro y hy; rcases (by simpa using hy : y = "why") with rfl; exact no_NoFlip_0, iC := iI_NoFlip, tI := tI_NoFlip, kC := kC_NoFlip, eC := eC_NoFlip, tC := tC_NoFlip, rD := rD_CellError, gaD := gD_CellError, iD := iD_CellError, fn := ⟨"NoFlip.__init__", _, _, _, _, _, _, _, _, _, lI_NoFlip, cI_NoFlip, d_NoFlip⟩ }
      f_TooWide := fI_TooWide
      e_TooWide := { bb := eb_arith, gC := PySem.W.mg_of X G aC_TooWide, gD := PySem.W.mg_of X G aC_LimitError, cls := ⟨_, _, _, _, _, _, _, _, _, _, _, _, _, _, xL_TooWide⟩, sa := sa_TooWide, noF := by intro y hy; rcases (by simpa using hy : y = "needed") with rfl; exact no_TooWide_0, iC := iI_TooWide, tI := tI_TooWide, kC := kC_TooWide, eC := eC_TooWide, tC := tC_TooWide, rD := rD_LimitError, gaD := gD_LimitError, iD := iD_LimitError, fn := ⟨"TooWide.__init__", _, _, _, _, _, _, _, _, _, lI_TooWide, cI_TooWide, d_TooWide⟩ }
      cq := ⟨cq1, cq2⟩
      z_abs := PySem.W.mg_none_of X G z_abs
      z_all := PySem.W.mg_none_of X G z_all
      z_bool := PySem.W.mg_none_of X G z_bool
      z_divmod := PySem.W.mg_none_of X G z_divmod
      z_enumerate := PySem.W.mg_none_of X G z_enumerate
      z_int := PySem.W.mg_none_of X G z_int
      z_isinstance := PySem.W.mg_none_of X G z_isinstance
      z_len := PySem.W.mg_none_of X G z_len
      z_list := PySem.W.mg_none_of X G z_list
      z_max := PySem.W.mg_none_of X G z_max
      z_min := PySem.W.mg_none_of X G z_min
      z_range := PySem.W.mg_none_of X G z_range
      z_repr := PySem.W.mg_none_of X G z_repr
      z_sorted := PySem.W.mg_none_of X G z_sorted
      z_str := PySem.W.mg_none_of X G z_str
      z_sum := PySem.W.mg_none_of X G z_sum
      z_tuple := PySem.W.mg_none_of X G z_tuple
      z_zip := PySem.W.mg_none_of X G z_zip
      t_MOST_CELLS := t_MOST_CELLS
      c_MOST_CELLS := PySem.W.mg_of X G v_MOST_CELLS }
  exact ⟨T.fd_law, fun s v => .of_eq rfl, fun base _ _ => ok_law T⟩
end PX
open PySem PySem.W PyProof.Rows
set_option maxRecDepth 100000 in
set_option maxHeartbeats 0 in
theorem PySem.Challenge.cw_paritycells_k22_whole_moved_past_holds : PySem.Challenge.rw_paritycells_k22_whole_moved_past.Holds := by
  w_on; o_law; k_head; (case hw => w_witness2)
  k_fill
  refine PC.walkG (l := PySem.Challenge.rw_paritycells_k22_whole_moved_past) (n := 63) (k := 11) (x := "_law_script") (sp := fun w => PX.sp_law _) rfl (by decide) rfl ⟨rfl, by decide, by decide⟩ (fun w h Y => PySem.W.kIn_of Y) ?K1 (by first | rfl | decide +kernel) ?F (fun _ _ a ns hl hb h1 hS => ⟨a, ns, rfl, h1, hS, hl, fun _ => rfl⟩)
  case K1 => intro w; first | rfl | k_is | decide +kernel
  case F =>
    intro w mg fa h KX G hmg
    refine' PX.all_mk KX G hmg ?aC_Flip ?aC_Board ?a_law_pot ?l_law_pot ?c_law_pot ?k_law_pot ?a_law_draw ?l_law_draw ?c_law_draw ?k_law_draw ?a_law_width ?l_law_width ?c_law_width ?k_law_width ?a_law_all_bits ?l_law_all_bits ?c_law_all_bits ?k_law_all_bits ?a_law_bits ?l_law_bits ?c_law_bits ?k_law_bits ?a_law_spots ?l_law_spots ?c_law_spots ?k_law_spots ?a_law_pair ?l_law_pair ?c_law_pair ?k_law_pair ?a_mask_of_cells ?l_mask_of_cells ?c_mask_of_cells ?k_mask_of_cells ?a_is_integer_in ?l_is_integer_in ?c_is_integer_in ?k_is_integer_in ?a_is_cell ?l_is_cell ?c_is_cell ?k_is_cell ?kw_is_cell_0 ?a_cell_tuple ?l_cell_tuple ?c_cell_tuple ?k_cell_tuple ?kw_cell_tuple_0 ?a_cell_mask ?l_cell_mask ?c_cell_mask ?k_cell_mask ?a_is_odd_cells ?l_is_odd_cells ?c_is_odd_cells ?k_is_odd_cells ?i_Flip____init ?a_Flip____init ?l_Flip____init ?c_Flip____init ?k_Flip____init ?a_law_flip_of ?l_law_flip_of ?c_law_flip_of ?k_law_flip_of ?a_law_added ?l_law_added ?c_law_added ?k_law_added ?a_law_past ?l_law_past ?c_law_past ?k_law_past ?a_law_pair_past ?l_law_pair_past ?c_law_pair_past ?k_law_pair_past ?a_cells_in_cells ?l_cells_in_cells ?c_cells_in_cells ?k_cells_in_cells ?i_Flip__toggled ?a_Flip__toggled ?l_Flip__toggled ?c_Flip__toggled ?k_Flip__toggled ?i_Flip__tested ?a_Flip__tested ?l_Flip__tested ?c_Flip__tested ?k_Flip__tested ?i_Flip____repr ?a_Flip____repr ?l_Flip____repr ?c_Flip____repr ?k_Flip____repr ?a_mask_text ?l_mask_text ?c_mask_text ?k_mask_text ?i_Flip____str ?a_Flip____str ?l_Flip____str ?c_Flip____str ?k_Flip____str ?a_law_text_of ?l_law_text_of ?c_law_text_of ?k_law_text_of ?a_law_pair_text ?l_law_pair_text ?c_law_pair_text ?k_law_pair_text ?a_law_written ?l_law_written ?c_law_written ?k_law_written ?a_mask_of_sequences ?l_mask_of_sequences ?c_mask_of_sequences ?k_mask_of_sequences ?a_cells_in_sequences ?l_cells_in_sequences ?c_cells_in_sequences ?k_cells_in_sequences ?a_is_odd_sequences ?l_is_odd_sequences ?c_is_odd_sequences ?k_is_odd_sequences ?a_mask_past ?l_mask_past ?c_mask_past ?k_mask_past ?a_moved_past ?l_moved_past ?c_moved_past ?k_moved_past ?i_Flip____eq ?a_Flip____eq ?l_Flip____eq ?c_Flip____eq ?k_Flip____eq ?i_Flip__is_idle ?a_Flip__is_idle ?l_Flip__is_idle ?c_Flip__is_idle ?k_Flip__is_idle ?i_Flip__width ?a_Flip__width ?l_Flip__width ?c_Flip__width ?k_Flip__width ?a_law_is_pair ?l_law_is_pair ?c_law_is_pair ?k_law_is_pair ?a_law_parity ?l_law_parity ?c_law_parity ?k_law_parity ?a_law_after ?l_law_after ?c_law_after ?k_law_after ?a_law_after_all ?l_law_after_all ?c_law_after_all ?k_law_after_all ?i_Board__size ?a_Board__size ?l_Board__size ?c_Board__size ?k_Board__size ?a_require_cell ?l_require_cell ?c_require_cell ?k_require_cell ?i_Board__is_up ?a_Board__is_up ?l_Board__is_up ?c_Board__is_up ?k_Board__is_up ?i_Board__parity ?a_Board__parity ?l_Board__parity ?c_Board__parity ?k_Board__parity ?i_Board__up ?a_Board__up ?l_Board__up ?c_Board__up ?k_Board__up ?a_law_up ?l_law_up ?c_law_up ?k_law_up ?a_law_is_so ?l_law_is_so ?c_law_is_so ?k_law_is_so ?a_require_fit ?l_require_fit ?c_require_fit ?k_require_fit ?a_require_size ?l_require_size ?c_require_size ?k_require_size ?i_Board____init ?a_Board____init ?l_Board____init ?c_Board____init ?k_Board____init ?kw_Board____init_0 ?kt_Board____init_0 ?a_board_of ?l_board_of ?c_board_of ?k_board_of ?a_mask_after ?l_mask_after ?c_mask_after ?k_mask_after ?a_apply_flip ?l_apply_flip ?c_apply_flip ?k_apply_flip ?a_apply_flips ?l_apply_flips ?c_apply_flips ?k_apply_flips ?a_law_made ?l_law_made ?c_law_made ?k_law_made ?a_law_right ?l_law_right ?c_law_right ?k_law_right ?a_law ?l_law ?c_law ?k_law ?pg_Board ?hd_Board ?po_Board ?sa_Board ?mk_Board ?ca_Board ?ob_Board ?kC_Board ?no_Board_own_size ?no_Board_up_mask ?pg_Flip ?hd_Flip ?po_Flip ?sa_Flip ?mk_Flip ?ca_Flip ?ob_Flip ?kC_Flip ?no_Flip_test_mask ?no_Flip_toggle_mask ?ne_Flip ?aC_CellError ?aC_LimitError ?aC_NoSize ?aC_NoCell ?aC_NoCells ?aC_NoFlip ?aC_TooWide ?ga_CellError ?gg_CellError ?eC_CellError ?hd_CellError ?ic_CellError ?tC_CellError ?ca_CellError ?ob_CellError ?me_CellError ?ga_LimitError ?gg_LimitError ?eC_LimitError ?hd_LimitError ?ic_LimitError ?tC_LimitError ?ca_LimitError ?ob_LimitError ?me_LimitError ?ga_NoSize ?gg_NoSize ?eC_NoSize ?hd_NoSize ?ic_NoSize ?tC_NoSize ?ca_NoSize ?ob_NoSize ?me_NoSize ?ga_NoCell ?gg_NoCell ?eC_NoCell ?hd_NoCell ?ic_NoCell ?tC_NoCell ?ca_NoCell ?ob_NoCell ?me_NoCell ?ga_NoCells ?gg_NoCells ?eC_NoCells ?hd_NoCells ?ic_NoCells ?tC_NoCells ?ca_NoCells ?ob_NoCells ?me_NoCells ?ga_NoFlip ?gg_NoFlip ?eC_NoFlip ?hd_NoFlip ?ic_NoFlip ?tC_NoFlip ?ca_NoFlip ?ob_NoFlip ?me_NoFlip ?ga_TooWide ?gg_TooWide ?eC_TooWide ?hd_TooWide ?ic_TooWide ?tC_TooWide ?ca_TooWide ?ob_TooWide ?me_TooWide ?rD_CellError ?gD_CellError ?iD_CellError ?rD_LimitError ?gD_LimitError ?iD_LimitError ?xL_NoSize ?sa_NoSize ?no_NoSize_0 ?iI_NoSize ?tI_NoSize ?lI_NoSize ?cI_NoSize ?kC_NoSize ?xL_NoCell ?sa_NoCell ?no_NoCell_0 ?iI_NoCell ?tI_NoCell ?lI_NoCell ?cI_NoCell ?kC_NoCell ?xL_NoCells ?sa_NoCells ?no_NoCells_0 ?iI_NoCells ?tI_NoCells ?lI_NoCells ?cI_NoCells ?kC_NoCells ?xL_NoFlip ?sa_NoFlip ?no_NoFlip_0 ?iI_NoFlip ?tI_NoFlip ?lI_NoFlip ?cI_NoFlip ?kC_NoFlip ?xL_TooWide ?sa_TooWide ?no_TooWide_0 ?iI_TooWide ?tI_TooWide ?lI_TooWide ?cI_TooWide ?kC_TooWide ?cq1 ?cq2 ?z_abs ?z_all ?z_bool ?z_divmod ?z_enumerate ?z_int ?z_isinstance ?z_len ?z_list ?z_max ?z_min ?z_range ?z_repr ?z_sorted ?z_str ?z_sum ?z_tuple ?z_zip ?v_MOST_CELLS
    (case aC_Flip => k_is)
    (case aC_Board => k_is)
    (case a_law_pot => k_is)
    (case l_law_pot => k_is)
    (case c_law_pot => k_is)
    (case k_law_pot => k_is)
    (case a_law_draw => k_is)
    (case l_law_draw => k_is)
    (case c_law_draw => k_is)
    (case k_law_draw => k_is)
    (case a_law_width => k_is)
    (case l_law_width => k_is)
    (case c_law_width => k_is)
    (case k_law_width => k_is)
    (case a_law_all_bits => k_is)
    (case l_law_all_bits => k_is)
    (case c_law_all_bits => k_is)
    (case k_law_all_bits => k_is)
    (case a_law_bits => k_is)
    (case l_law_bits => k_is)
    (case c_law_bits => k_is)
    (case k_law_bits => k_is)
    (case a_law_spots => k_is)
    (case l_law_spots => k_is)
    (case c_law_spots => k_is)
    (case k_law_spots => k_is)
    (case a_law_pair => k_is)
    (case l_law_pair => k_is)
    (case c_law_pair => k_is)
    (case k_law_pair => k_is)
    (case a_mask_of_cells => k_is)
    (case l_mask_of_cells => k_is)
    (case c_mask_of_cells => k_is)
    (case k_mask_of_cells => k_is)
    (case a_is_integer_in => k_is)
    (case l_is_integer_in => k_is)
    (case c_is_integer_in => k_is)
    (case k_is_integer_in => k_is)
    (case a_is_cell => k_is)
    (case l_is_cell => k_is)
    (case c_is_cell => k_is)
    (case k_is_cell => k_is)
    (case kw_is_cell_0 => k_is)
    (case a_cell_tuple => k_is)
    (case l_cell_tuple => k_is)
    (case c_cell_tuple => k_is)
    (case k_cell_tuple => k_is)
    (case kw_cell_tuple_0 => k_is)
    (case a_cell_mask => k_is)
    (case l_cell_mask => k_is)
    (case c_cell_mask => k_is)
    (case k_cell_mask => k_is)
    (case a_is_odd_cells => k_is)
    (case l_is_odd_cells => k_is)
    (case c_is_odd_cells => k_is)
    (case k_is_odd_cells => k_is)
    (case i_Flip____init => k_is)
    (case a_Flip____init => k_is)
    (case l_Flip____init => k_is)
    (case c_Flip____init => k_is)
    (case k_Flip____init => k_is)
    (case a_law_flip_of => k_is)
    (case l_law_flip_of => k_is)
    (case c_law_flip_of => k_is)
    (case k_law_flip_of => k_is)
    (case a_law_added => k_is)
    (case l_law_added => k_is)
    (case c_law_added => k_is)
    (case k_law_added => k_is)
    (case a_law_past => k_is)
    (case l_law_past => k_is)
    (case c_law_past => k_is)
    (case k_law_past => k_is)
    (case a_law_pair_past => k_is)
    (case l_law_pair_past => k_is)
    (case c_law_pair_past => k_is)
    (case k_law_pair_past => k_is)
    (case a_cells_in_cells => k_is)
    (case l_cells_in_cells => k_is)
    (case c_cells_in_cells => k_is)
    (case k_cells_in_cells => k_is)
    (case i_Flip__toggled => k_is)
    (case a_Flip__toggled => k_is)
    (case l_Flip__toggled => k_is)
    (case c_Flip__toggled => k_is)
    (case k_Flip__toggled => k_is)
    (case i_Flip__tested => k_is)
    (case a_Flip__tested => k_is)
    (case l_Flip__tested => k_is)
    (case c_Flip__tested => k_is)
    (case k_Flip__tested => k_is)
    (case i_Flip____repr => k_is)
    (case a_Flip____repr => k_is)
    (case l_Flip____repr => k_is)
    (case c_Flip____repr => k_is)
    (case k_Flip____repr => k_is)
    (case a_mask_text => k_is)
    (case l_mask_text => k_is)
    (case c_mask_text => k_is)
    (case k_mask_text => k_is)
    (case i_Flip____str => k_is)
    (case a_Flip____str => k_is)
    (case l_Flip____str => k_is)
    (case c_Flip____str => k_is)
    (case k_Flip____str => k_is)
    (case a_law_text_of => k_is)
    (case l_law_text_of => k_is)
    (case c_law_text_of => k_is)
    (case k_law_text_of => k_is)
    (case a_law_pair_text => k_is)
    (case l_law_pair_text => k_is)
    (case c_law_pair_text => k_is)
    (case k_law_pair_text => k_is)
    (case a_law_written => k_is)
    (case l_law_written => k_is)
    (case c_law_written => k_is)
    (case k_law_written => k_is)
    (case a_mask_of_sequences => k_is)
    (case l_mask_of_sequences => k_is)
    (case c_mask_of_sequences => k_is)
    (case k_mask_of_sequences => k_is)
    (case a_cells_in_sequences => k_is)
    (case l_cells_in_sequences => k_is)
    (case c_cells_in_sequences => k_is)
    (case k_cells_in_sequences => k_is)
    (case a_is_odd_sequences => k_is)
    (case l_is_odd_sequences => k_is)
    (case c_is_odd_sequences => k_is)
    (case k_is_odd_sequences => k_is)
    (case a_mask_past => k_is)
    (case l_mask_past => k_is)
    (case c_mask_past => k_is)
    (case k_mask_past => k_is)
    (case a_moved_past => k_is)
    (case l_moved_past => k_is)
    (case c_moved_past => k_is)
    (case k_moved_past => k_is)
    (case i_Flip____eq => k_is)
    (case a_Flip____eq => k_is)
    (case l_Flip____eq => k_is)
    (case c_Flip____eq => k_is)
    (case k_Flip____eq => k_is)
    (case i_Flip__is_idle => k_is)
    (case a_Flip__is_idle => k_is)
    (case l_Flip__is_idle => k_is)
    (case c_Flip__is_idle => k_is)
    (case k_Flip__is_idle => k_is)
    (case i_Flip__width => k_is)
    (case a_Flip__width => k_is)
    (case l_Flip__width => k_is)
    (case c_Flip__width => k_is)
    (case k_Flip__width => k_is)
    (case a_law_is_pair => k_is)
    (case l_law_is_pair => k_is)
    (case c_law_is_pair => k_is)
    (case k_law_is_pair => k_is)
    (case a_law_parity => k_is)
    (case l_law_parity => k_is)
    (case c_law_parity => k_is)
    (case k_law_parity => k_is)
    (case a_law_after => k_is)
    (case l_law_after => k_is)
    (case c_law_after => k_is)
    (case k_law_after => k_is)
    (case a_law_after_all => k_is)
    (case l_law_after_all => k_is)
    (case c_law_after_all => k_is)
    (case k_law_after_all => k_is)
    (case i_Board__size => k_is)
    (case a_Board__size => k_is)
    (case l_Board__size => k_is)
    (case c_Board__size => k_is)
    (case k_Board__size => k_is)
    (case a_require_cell => k_is)
    (case l_require_cell => k_is)
    (case c_require_cell => k_is)
    (case k_require_cell => k_is)
    (case i_Board__is_up => k_is)
    (case a_Board__is_up => k_is)
    (case l_Board__is_up => k_is)
    (case c_Board__is_up => k_is)
    (case k_Board__is_up => k_is)
    (case i_Board__parity => k_is)
    (case a_Board__parity => k_is)
    (case l_Board__parity => k_is)
    (case c_Board__parity => k_is)
    (case k_Board__parity => k_is)
    (case i_Board__up => k_is)
    (case a_Board__up => k_is)
    (case l_Board__up => k_is)
    (case c_Board__up => k_is)
    (case k_Board__up => k_is)
    (case a_law_up => k_is)
    (case l_law_up => k_is)
    (case c_law_up => k_is)
    (case k_law_up => k_is)
    (case a_law_is_so => k_is)
    (case l_law_is_so => k_is)
    (case c_law_is_so => k_is)
    (case k_law_is_so => k_is)
    (case a_require_fit => k_is)
    (case l_require_fit => k_is)
    (case c_require_fit => k_is)
    (case k_require_fit => k_is)
    (case a_require_size => k_is)
    (case l_require_size => k_is)
    (case c_require_size => k_is)
    (case k_require_size => k_is)
    (case i_Board____init => k_is)
    (case a_Board____init => k_is)
    (case l_Board____init => k_is)
    (case c_Board____init => k_is)
    (case k_Board____init => k_is)
    (case kw_Board____init_0 => k_is)
    (case kt_Board____init_0 => k_is)
    (case a_board_of => k_is)
    (case l_board_of => k_is)
    (case c_board_of => k_is)
    (case k_board_of => k_is)
    (case a_mask_after => k_is)
    (case l_mask_after => k_is)
    (case c_mask_after => k_is)
    (case k_mask_after => k_is)
    (case a_apply_flip => k_is)
    (case l_apply_flip => k_is)
    (case c_apply_flip => k_is)
    (case k_apply_flip => k_is)
    (case a_apply_flips => k_is)
    (case l_apply_flips => k_is)
    (case c_apply_flips => k_is)
    (case k_apply_flips => k_is)
    (case a_law_made => k_is)
    (case l_law_made => k_is)
    (case c_law_made => k_is)
    (case k_law_made => k_is)
    (case a_law_right => k_is)
    (case l_law_right => k_is)
    (case c_law_right => k_is)
    (case k_law_right => k_is)
    (case a_law => k_is)
    (case l_law => k_is)
    (case c_law => k_is)
    (case k_law => k_is)
    (case pg_Board => k_is)
    (case hd_Board => k_is)
    (case po_Board => k_is)
    (case sa_Board => k_is)
    (case mk_Board => k_is)
    (case ca_Board => k_is)
    (case ob_Board => k_is)
    (case kC_Board => k_is)
    (case no_Board_own_size => k_is)
    (case no_Board_up_mask => k_is)
    (case pg_Flip => k_is)
    (case hd_Flip => k_is)
    (case po_Flip => k_is)
    (case sa_Flip => k_is)
    (case mk_Flip => k_is)
    (case ca_Flip => k_is)
    (case ob_Flip => k_is)
    (case kC_Flip => k_is)
    (case no_Flip_test_mask => k_is)
    (case no_Flip_toggle_mask => k_is)
    (case ne_Flip => k_is)
    (case aC_CellError => k_is)
    (case aC_LimitError => k_is)
    (case aC_NoSize => k_is)
    (case aC_NoCell => k_is)
    (case aC_NoCells => k_is)
    (case aC_NoFlip => k_is)
    (case aC_TooWide => k_is)
    (case ga_CellError => k_is)
    (case gg_CellError => k_is)
    (case eC_CellError => k_is)
    (case hd_CellError => k_is)
    (case ic_CellError => k_is)
    (case tC_CellError => k_is)
    (case ca_CellError => k_is)
    (case ob_CellError => k_is)
    (case me_CellError => k_is)
    (case ga_LimitError => k_is)
    (case gg_LimitError => k_is)
    (case eC_LimitError => k_is)
    (case hd_LimitError => k_is)
    (case ic_LimitError => k_is)
    (case tC_LimitError => k_is)
    (case ca_LimitError => k_is)
    (case ob_LimitError => k_is)
    (case me_LimitError => k_is)
    (case ga_NoSize => k_is)
    (case gg_NoSize => k_is)
    (case eC_NoSize => k_is)
    (case hd_NoSize => k_is)
    (case ic_NoSize => k_is)
    (case tC_NoSize => k_is)
    (case ca_NoSize => k_is)
    (case ob_NoSize => k_is)
    (case me_NoSize => k_is)
    (case ga_NoCell => k_is)
    (case gg_NoCell => k_is)
    (case eC_NoCell => k_is)
    (case hd_NoCell => k_is)
    (case ic_NoCell => k_is)
    (case tC_NoCell => k_is)
    (case ca_NoCell => k_is)
    (case ob_NoCell => k_is)
    (case me_NoCell => k_is)
    (case ga_NoCells => k_is)
    (case gg_NoCells => k_is)
    (case eC_NoCells => k_is)
    (case hd_NoCells => k_is)
    (case ic_NoCells => k_is)
    (case tC_NoCells => k_is)
    (case ca_NoCells => k_is)
    (case ob_NoCells => k_is)
    (case me_NoCells => k_is)
    (case ga_NoFlip => k_is)
    (case gg_NoFlip => k_is)
    (case eC_NoFlip => k_is)
    (case hd_NoFlip => k_is)
    (case ic_NoFlip => k_is)
    (case tC_NoFlip => k_is)
    (case ca_NoFlip => k_is)
    (case ob_NoFlip => k_is)
    (case me_NoFlip => k_is)
    (case ga_TooWide => k_is)
    (case gg_TooWide => k_is)
    (case eC_TooWide => k_is)
    (case hd_TooWide => k_is)
    (case ic_TooWide => k_is)
    (case tC_TooWide => k_is)
    (case ca_TooWide => k_is)
    (case ob_TooWide => k_is)
    (case me_TooWide => k_is)
    (case rD_CellError => k_is)
    (case gD_CellError => k_is)
    (case iD_CellError => k_is)
    (case rD_LimitError => k_is)
    (case gD_LimitError => k_is)
    (case iD_LimitError => k_is)
    (case xL_NoSize => k_is)
    (case sa_NoSize => k_is)
    (case no_NoSize_0 => k_is)
    (case iI_NoSize => k_is)
    (case tI_NoSize => k_is)
    (case lI_NoSize => k_is)
    (case cI_NoSize => k_is)
    (case kC_NoSize => k_is)
    (case xL_NoCell => k_is)
    (case sa_NoCell => k_is)
    (case no_NoCell_0 => k_is)
    (case iI_NoCell => k_is)
    (case tI_NoCell => k_is)
    (case lI_NoCell => k_is)
    (case cI_NoCell => k_is)
    (case kC_NoCell => k_is)
    (case xL_NoCells => k_is)
    (case sa_NoCells => k_is)
    (case no_NoCells_0 => k_is)
    (case iI_NoCells => k_is)
    (case tI_NoCells => k_is)
    (case lI_NoCells => k_is)
    (case cI_NoCells => k_is)
    (case kC_NoCells => k_is)
    (case xL_NoFlip => k_is)
    (case sa_NoFlip => k_is)
    (case no_NoFlip_0 => k_is)
    (case iI_NoFlip => k_is)
    (case tI_NoFlip => k_is)
    (case lI_NoFlip => k_is)
    (case cI_NoFlip => k_is)
    (case kC_NoFlip => k_is)
    (case xL_TooWide => k_is)
    (case sa_TooWide => k_is)
    (case no_TooWide_0 => k_is)
    (case iI_TooWide => k_is)
    (case tI_TooWide => k_is)
    (case lI_TooWide => k_is)
    (case cI_TooWide => k_is)
    (case kC_TooWide => k_is)
    (case cq1 => k_is)
    (case cq2 => k_is)
    (case z_abs => k_is)
    (case z_all => k_is)
    (case z_bool => k_is)
    (case z_divmod => k_is)
    (case z_enumerate => k_is)
    (case z_int => k_is)
    (case z_isinstance => k_is)
    (case z_len => k_is)
    (case z_list => k_is)
    (case z_max => k_is)
    (case z_min => k_is)
    (case z_range => k_is)
    (case z_repr => k_is)
    (case z_sorted => k_is)
    (case z_str => k_is)
    (case z_sum => k_is)
    (case z_tuple => k_is)
    (case z_zip => k_is)
    (case v_MOST_CELLS => k_is)
