import PyProof.Rows.All
import Wide.All
import OpenK.AllK
import Wide.FinOn
import HandS.ForMost
import HandS.ForExc
import HandS.IsInst
import HandS.EndBits
import HandS.Wide
import HandS.Walk
import KE.KIsAll
import KE.KTryMore
import KE.KExcIs
import KE.KExcInit
import HandS.Exc
import HandS.ExcField
import HandS.ExcOwn
import HandS.CallSlots
import HandS.Defaults
import HandS.MakeKwOnly
import HandS.SortInts
import HandS.Zip
import HandS.Conv
import HandS.More
import KE.KCallOwn
import KE.KFmtOwn
import HandS.WideBits
import KE.IntBitsLaws
import KE.BitLaws
import HandS.FStr
import HandS.TryMany
import PyProof.InstNe
import PyProof.Rows.InDataRows
import HandS.EndTab
import HandS.Style
import HandS.OwnEq
import HandS.WordsDict
import PyProof.NeKinds
import KE.KDictZip
import HandS.NoneIn
import HandS.Comp
import PyProof.EqKinds
import PyProof.FactsAll.dict_1
import KE.KNest
import PySem.Challenge.RW_paritycells_k17_three_simple_flips
set_option Elab.async false
set_option linter.all false
set_option maxRecDepth 100000
set_option maxHeartbeats 2000000
/-! PcA: defs around which no text of an object is being made (so repr may be asked); calls by values; the end. -/
namespace PC
open PySem PySem.Spec PyProof.Rows L2

/-- what is being made a text of stands in the ground, and is no constant -/
def GOkA (K : PySem.W.Frag) (A : Around) (base : Heap) : Prop :=
  ∃ gs, A.guards = some gs ∧ ∀ id v rest kw, Code.builtin id ⟨v :: rest, kw⟩ ∈ gs → ∃ g o, v = .ref g ∧ base.get? g = some o ∧ K.lookup g = none
abbrev GOk (X : Cx) : Prop := GOkA X.K X.A X.base
theorem GOkA.nil {K : PySem.W.Frag} {A : Around} {base : Heap} (h : A.guards = some []) : GOkA K A base := ⟨[], h, fun _ _ _ _ m => nomatch m⟩
/-- as the layer's promise of a def, for surroundings in which no repr is under way -/
structure FnG (P : Program) (w : World) (K : PySem.W.Frag) (mg : Str → Option Value) (base : Heap)
    (k : Nat) (f : Addr) (fd : FuncData) (ps : List Str) (sp : Sp) : Prop where
  len : ∀ vs H Q E, sp vs H Q E → vs.length = ps.length
  run : ∀ (A : Around) (outer : List Env) (s : Shared) (H : Hp) (args : Args)
      (us : List Value) (vs : List V) (Q : VK) (E : XK),
    GOkA K A base → Room k A → Env0 P w K mg base A outer s H →
    BindsTo s fd args (ps.zip us) → Vals vs us → sp vs H Q E →
    codeAny (model P w) A (.call (.ref f) args) (CR (L2.CX P w) outer P w H s Q E) s

section
variable {P : Program} {w : World} {K : PySem.W.Frag} {mg : Str → Option Value} {base : Heap}

theorem FnG.mono {j k : Nat} {f : Addr} {fd : FuncData} {ps : List Str} {sp : Sp}
    (F : FnG P w K mg base j f fd ps sp) (h : j ≤ k) : FnG P w K mg base k f fd ps sp :=
  ⟨F.len, fun A o s H a us vs Q E g r => F.run A o s H a us vs Q E g (r.mono h)⟩
theorem FnG.imp {k : Nat} {f : Addr} {fd : FuncData} {ps : List Str} {sp sp' : Sp}
    (F : FnG P w K mg base k f fd ps sp) (h : ∀ vs H Q E, sp' vs H Q E → sp vs H Q E) : FnG P w K mg base k f fd ps sp' :=
  ⟨fun vs H Q E q => F.len vs H Q E (h _ _ _ _ q),
    fun A o s H a us vs Q E g r e0 b rv q => F.run A o s H a us vs Q E g r e0 b rv (h _ _ _ _ q)⟩

/-- the context of a body -/
abbrev cxg (P : Program) (w : World) (K : PySem.W.Frag) (mg : Str → Option Value) (base : Heap) (N : List Str) (qual : Str)
    (st : Stmt) (f : Addr) (cdv : Value) (A : Around) (outer : List Env) (s : Shared) (H : Hp) (E : XK) : Cx :=
  cxOf (L2.CX P w) P w K mg base N qual (defScope st) f cdv A outer s H E

/-- a def of the text by its body; the body may lean on «no repr is under way» -/
theorem FnG.okX {x qual : Str} {st : Stmt} {f : Addr} {fd : FuncData} {N ps : List Str} {k : Nat} {sp : Sp}
    (F : Fun K x qual st f fd) (S : FnScope N ps (defScope st))
    (len : ∀ vs H Q E, sp vs H Q E → vs.length = ps.length)
    (body : ∀ (cdv : Value) (A : Around) (outer : List Env) (s : Shared) (H : Hp) (vs : List V) (Q : VK) (E : XK),
      GOkA K A base → Room k (A.deeper (envOfC qual (defScope st) s.heap.objs.size f cdv)) → sp vs H Q E →
      ∃ t, PSs (cxg P w K mg base N qual st f cdv A outer s H E) (defBody st) t ∧
        t { nx := fun _ H' => Q .non H', rt := Q } (start N vs) H) :
    FnG P w K mg base (k + 1) f fd ps sp := by
  obtain ⟨oc, od, kV, doc, pm, an, cdv, ct, osl, rfl, lk, hcd⟩ := F.ex
  refine ⟨len, fun A outer s H args us vs Q E hg hr e0 hb rv hsp => ?_⟩
  have bk : ∀ b o, base.get? b = some o → s.heap.get? b = some o := fun b o e => (e0.bs b o e).1
  have cells : ∀ y ∈ ps.zip us, (defScope st).names.lookup y.1 = some .local ∨
      ((defScope st).names.lookup y.1 = some .cell ∧
        ((cellsFrom (s.heap.objs.size + 1) (defScope st).names []).lookup y.1).isSome = true) := by
    rintro ⟨n, v⟩ hy
    rcases S.par n (List.of_mem_zip hy).1 with z | z
    · exact .inl z
    · exact .inr ⟨z, PySem.W.cellsFrom_some _ _ _ (.inl z)⟩
  refine codeAny_call_function hr.depth ((e0.mod.kin.keeps bk) _ _ lk) rfl S.co S.gen rfl
    (PySem.W.codeRec_of (e0.mod.kin.keeps bk) hcd) (hb _ _ _ _ ?_)
  refine wpAny_newFunctionEnv_cells S.kind cells fun env he s1 x => ?_
  subst he
  refine ⟨(e0.mod.nolimit.keeps bk).keeps x.toInCall.keep, codeAny_func ?_⟩
  obtain ⟨t, ht, hq⟩ := body cdv A outer s H vs Q E hg (hr.deeper _) hsp
  refine wpAny_mono (ht.run [] s1 (start N vs) H _
    (inv_start S hr.hd e0 (len _ _ _ _ hsp) rv x) hq) (fun fl s' hs => ?_) fun e s' hs => hs
  cases fl with
  | ret u =>
    obtain ⟨v, _, H', J, r, q⟩ := hs
    exact ⟨v, H', J.os, J.bare, J.base, J.hok, r, q⟩
  | next =>
    obtain ⟨_, H', J, q⟩ := hs
    exact ⟨V.non, H', J.os, J.bare, J.base, J.hok, rfl, q⟩
  | brk => obtain ⟨_, _, _, q⟩ := hs; exact q.elim
  | cont => obtain ⟨_, _, _, q⟩ := hs; exact q.elim

/-- the same for a def that lets nothing out -/
theorem FnG.ok {x qual : Str} {st : Stmt} {f : Addr} {fd : FuncData} {N ps : List Str} {k : Nat} {sp : Sp}
    (F : Fun K x qual st f fd) (S : FnScope N ps (defScope st))
    (len : ∀ vs H Q E, sp vs H Q E → vs.length = ps.length)
    (body : ∀ (cdv : Value) (A : Around) (outer : List Env) (s : Shared) (H : Hp) (vs : List V) (Q : VK) (E : XK),
      GOkA K A base → Room k (A.deeper (envOfC qual (defScope st) s.heap.objs.size f cdv)) → sp vs H Q E →
      ∃ t, PSs (cxg P w K mg base N qual st f cdv A outer s H E).nox (defBody st) t ∧
        t { nx := fun _ H' => Q .non H', rt := Q } (start N vs) H) :
    FnG P w K mg base (k + 1) f fd ps sp :=
  FnG.okX F S len fun cdv A outer s H vs Q E g r h =>
    let ⟨t, ht, q⟩ := body cdv A outer s H vs Q E g r h
    ⟨t, ht.nox, q⟩
end

/-- nothing leaves: a call in a def that lets nothing out -/
theorem passN {X : Cx} : Passes (L2.CX X.prog X.w) X E0 := by
  rintro pins σ H s e s' I ⟨a, B, H', cls, d, h1, h2, h3, h4, h5, h6, h7, h8⟩
  exact h8.elim

section
variable {X : Cx} {k : Nat} {f : Addr} {fd : FuncData} {ps ks : List Str} {sp : Sp} {dvs : List V} {ds : List Value} {E : XK}
/-- a def by its values: positional -/
theorem FnG.at (F : FnG X.prog X.w X.K X.mg X.base k f fd ps sp) (hg : GOk X) (hr : Room k X.A)
    (hb : Binds X.K fd ps ds) (hd : Vals dvs ds) (hx : Passes (L2.CX X.prog X.w) X E) :
    CallR X (.ref f) (fun vs H Q => sp (vs ++ dvs) H Q E) := by
  intro pins s σ H vs us Q I rv h
  have r2 : Vals (vs ++ dvs) (us ++ ds) := rv.append hd
  have hl : (us ++ ds).length = ps.length := by rw [← r2.length]; exact F.len _ _ _ _ h
  refine wpAny_call (codeAny_mono (F.run X.A X.stack s H ⟨us, []⟩ (us ++ ds) (vs ++ dvs) Q E hg hr I.env0
    (hb s us I.kIn hl) r2 h) fun r s' hq => ?_)
  match r, hq with
  | .error e, hq => exact hx pins σ H s e s' I hq
  | .ok (.ret u), hq => exact I.after hq
  | .ok .next, hq => exact hq.elim
  | .ok .brk, hq => exact hq.elim
  | .ok .cont, hq => exact hq.elim

/-- a call with keywords, by values -/
def CallKR (X : Cx) (f : Value) (ks : List Str) (r : List V → List V → Hp → VK → Prop) : Prop :=
  ∀ (pins : List (Addr × Obj)) (s : Shared) (σ : L2.St) (H : Hp) (xs zs : List V) (us ws : List Value) (Q : VK),
    Inv X pins σ H s → Vals xs us → Vals zs ws → r xs zs H Q →
    wpAny (model X.prog X.w) X.A (call f us (ks.zip ws)) (EP X pins σ Q) X.xe s
variable {x : Str} {p pos : Pos} {e : Expr} {es : List Expr} {kws : List Keyword} {t tk : TA}
    {r : List V → Hp → VK → Prop} {rk : List V → List V → Hp → VK → Prop}
def tCK (r : List V → List V → Hp → VK → Prop) (t tk : TA) : TE :=
  fun σ H Q => t σ H fun vs H1 => tk σ H1 fun zs H2 => r vs zs H2 Q
end

/-! ### repr of what stands -/
/-- a text maker of a builtin kind, under any guards that spare what h₀ has -/
structure ShowsG (prog : Program) (w : World) (h₀ : Heap) (a : Addr) (d : PyData) (T idr : String) : Prop where
  slot : SlotG T "__repr__" idr
  ty : ∀ s : Shared, (∀ b o, h₀.get? b = some o → s.heap.get? b = some o) → s.TypeIs (.ref a) T
  run : ∀ (A : Around) (gs : List Code) (E : Value → Shared → Prop) (s : Shared) (Q : Value → Shared → Prop), A.guards = some gs → (∀ b o, h₀.get? b = some o → Clear gs b) → A.units + d.depth < cLine →
    (∀ b o, h₀.get? b = some o → s.heap.get? b = some o) →
    (∀ h' u tk, (∀ b o, s.heap.get? b = some o → h'.get? b = some o) → Q (.str d.shown u) { s with heap := h', toks := tk }) → wpAny (model prog w) A (call (.builtin idr) [.ref a]) Q E s
theorem atMost_there {h₀ : Heap} {n : Nat} {bs : List Addr} (h : ReadAtMost h₀ n bs) {b : Addr} (m : b ∈ bs) : ∃ o, h₀.get? b = some o := by
  obtain ⟨d, as, r, _⟩ := h b m
  cases r with
  | list e => exact ⟨_, e⟩
  | tuple e => exact ⟨_, e⟩
  | dict e => exact ⟨_, e⟩
section
variable {prog : Program} {w : World} {h₀ : Heap} {a : Addr} {d : PyData} {as : List Addr}
theorem showsG_of (r : Reads h₀ (.ref a) d as) (hs : d.showable = true) (ns : sysModules ∉ as) (hz : d.shown.length ≤ sizeLine) : ∃ T idr, ShowsG prog w h₀ a d T idr := by
  have clr : ∀ {gs : List Code} {o : Obj} {bs : List Addr} {n : Nat}, (∀ b o, h₀.get? b = some o → Clear gs b) → h₀.get? a = some o → ReadAtMost h₀ n bs → ∀ b ∈ a :: bs, Clear gs b := fun hc ho hb b m => by
    rcases List.mem_cons.mp m with e | m
    · exact hc b _ (e ▸ ho)
    · obtain ⟨o', e⟩ := atMost_there hb m
      exact hc b o' e
  cases r with
  | @list _ o vs n xs bs₀ e1 e2 e3 e4 =>
    have hz' : (listText (PyData.shownAll xs)).length ≤ sizeLine := by simpa only [PyData.shown] using hz
    obtain ⟨bs, hb, hk⟩ := ReprAllK.of_readsAll (prog := prog) (w := w) e4 (by simpa [PyData.showable] using hs) (fun _ hm => ns (List.mem_cons_of_mem _ hm)) (fun t ht => Nat.le_trans (listText_mem_le ht) hz')
    have out : a ∉ bs := not_mem_of_deeper (.list e1 e2 e3 e4) (by simp only [PyData.depth]; omega) hb
    refine ⟨"list", "list.__repr__", F.slot_list_repr.toG, fun s k => ⟨o, k _ _ e1, e2⟩, fun A gs E s Q hg hc hu k hQ => ?_⟩
    simp only [PyData.depth] at hu
    simp only [PyData.shown] at hQ
    obtain ⟨l⟩ := vs
    match l, e3, e4, hk with
    | [], e3, e4, hk =>
      have z : ReadsAll h₀ [] xs _ := e4
      cases z
      simp only [PyData.shownAll, listText_nil] at hQ
      exact call_list_repr_empty ⟨o, k _ _ e1, e2⟩ (k _ _ e1) e3 (hQ s.heap _ _ fun _ _ e => e)
    | x :: l, e3, e4, hk =>
      exact call_list_reprK e1 e2 e3 out (by simpa using hk.length_eq) (fun i y e => hk.item i y (by simpa using e)) hg (clr hc e1 hb) hu k hQ hz'
  | @tuple _ o vs n xs as e1 e2 e3 e4 =>
    have hz' : (tupleText (PyData.shownAll xs)).length ≤ sizeLine := by simpa only [PyData.shown] using hz
    obtain ⟨bs, hb, hk⟩ := ReprAllK.of_readsAll (prog := prog) (w := w) e4 (by simpa [PyData.showable] using hs) (fun _ => ns) (fun t ht => Nat.le_trans (tupleText_mem_le ht) hz')
    have out : a ∉ bs := not_mem_of_deeper (.tuple e1 e2 e3 e4) (by simp only [PyData.depth]; omega) hb
    refine ⟨"tuple", "tuple.__repr__", F.slot_tuple_repr, fun s k => ⟨o, k _ _ e1, e2⟩, fun A gs E s Q hg hc hu k hQ => ?_⟩
    simp only [PyData.depth] at hu
    simp only [PyData.shown] at hQ
    exact call_tuple_reprK e1 e2 e3 out hk hg (clr hc e1 hb) hu k hQ hz'
  | @dict _ o es n kvs as₁ bs₁ e1 e2 e3 e4 e5 =>
    have hz' : (dictText (PyData.shownKv kvs)).length ≤ sizeLine := by simpa only [PyData.shown] using hz
    obtain ⟨hs1, hs2⟩ := PyData.showableKv_split kvs (by simpa [PyData.showable] using hs)
    obtain ⟨b1, hb1, k1⟩ := ReprAllK.of_readsAll (prog := prog) (w := w) e4 hs1 (fun _ hm => ns (List.mem_cons_of_mem _ (List.mem_append_left _ hm))) (fun t ht => let ⟨p, hp, hl⟩ := PyData.shownKv_key_le kvs t ht; Nat.le_trans hl (Nat.le_trans (dictText_mem_le hp) hz'))
    obtain ⟨b2, hb2, k2⟩ := ReprAllK.of_readsAll (prog := prog) (w := w) e5 hs2 (fun _ hm => ns (List.mem_cons_of_mem _ (List.mem_append_right _ hm))) (fun t ht => let ⟨p, hp, hl⟩ := PyData.shownKv_val_le kvs t ht; Nat.le_trans hl (Nat.le_trans (dictText_mem_le hp) hz'))
    have hb : ReadAtMost h₀ (PyData.depthKv kvs) (b1 ++ b2) := (hb1.mono (PyData.depthAll_keys_le kvs)).append (hb2.mono (PyData.depthAll_vals_le kvs))
    have out : a ∉ b1 ++ b2 := not_mem_of_deeper (.dict e1 e2 e3 e4 e5) (by simp only [PyData.depth]; omega) hb
    have hsys : (a == sysModules) = false := beq_eq_false_iff_ne.mpr fun e => ns (e ▸ List.mem_cons_self ..)
    refine ⟨"dict", "dict.__repr__", F.slot_dict_repr, fun s k => ⟨o, k _ _ e1, e2⟩, fun A gs E s Q hg hc hu k hQ => ?_⟩
    simp only [PyData.depth] at hu
    simp only [PyData.shown, PyData.shownKv_eq] at hQ
    have pairs := ReprEntriesK.of_two es.toList _ _ (k1.more_le (fun b hb => List.mem_append_left b2 hb) (PyData.depthAll_keys_le kvs)) (k2.more_le (fun b hb => List.mem_append_right b1 hb) (PyData.depthAll_vals_le kvs))
    exact call_dict_reprK e1 e2 e3 hsys out pairs hg (clr hc e1 hb) hu k hQ (by rw [← PyData.shownKv_eq]; exact hz')
end
section
variable {X : Cx}
theorem gok_clear {pins : List (Addr × Obj)} {σ : L2.St} {H : Hp} {s : Shared} (I : Inv X pins σ H s) {gs : List Code} (hg : ∀ id v rest kw, Code.builtin id ⟨v :: rest, kw⟩ ∈ gs → ∃ g o, v = .ref g ∧ X.base.get? g = some o ∧ X.K.lookup g = none)
    {b : Addr} (hb : H b = none → X.K.lookup b = none → False) : Clear gs b := fun id v rest kw m z => by
  obtain ⟨g, o, e1, e2, e3⟩ := hg id v rest kw m
  rw [z] at e1
  cases e1
  exact hb (I.bs _ _ e2).2 e3
theorem repr_ref (hg : GOk X) {pins : List (Addr × Obj)} {σ : L2.St} {H : Hp} {s : Shared} {h₀ : Heap} {a : Addr} {d : PyData} {as : List Addr} {Q : VK}
    (I : Inv X pins σ H s) (k : ∀ b o, h₀.get? b = some o → s.heap.get? b = some o) (nk : ∀ b, H b = none → X.K.lookup b = none → h₀.get? b = none) (r : Reads h₀ (.ref a) d as) (hs : d.showable = true) (ns : sysModules ∉ as)
    (hu : X.A.units + (d.depth + 1) < cLine) (hz : d.shown.length ≤ sizeLine) (q : Q (.str d.shown) H) :
    wpAny (model X.prog X.w) X.A (call (.builtin "repr") [.ref a]) (EP X pins σ Q) X.xe s := by
  obtain ⟨T, idr, S⟩ := showsG_of (prog := X.prog) (w := X.w) r hs ns hz
  obtain ⟨gs, hg, hgs⟩ := hg
  refine call_repr_slot (by omega) (S.ty s k) S.slot (S.run X.A.in1 gs X.xe s _ hg (fun b o e => gok_clear I hgs fun h1 h2 => by rw [nk b h1 h2] at e; cases e) (by show X.A.units + 1 + d.depth < cLine; omega) k fun h' u tk kp => ⟨_, _, rfl, ?_⟩)
  exact ⟨.str d.shown, H, I.kept kp, ⟨u, rfl⟩, q⟩
end

/-! ### the end: the law's def, called -/
/-- the place of the interpreter's own table is known -/
def One (H : Hp) : Prop := ∃ o a, H sysModules = some (.frz o (.own a))
section
variable {P : Program} {w : World} {K : PySem.W.Frag} {mg mb : Str → Option Value} {k : Nat} {fa a : Addr} {fd : FuncData}
  {x : Str} {sp : Sp} {s₁ : Shared} {vs : List Value} {ns : List Int}
/-- the heap behind the top: locked, at most the script and the interpreter's table are tracked -/
structure Root (K : PySem.W.Frag) (P : Program) (w : World) (a : Addr) (ns : List Int) (s₁ : Shared) (H : Hp) : Prop where
  only : ∀ b, H b = none ∨ ∃ o u, H b = some (.frz o u)
  list : SqL K H a (ns.map V.int)
  hok : HOk P w H s₁.heap
  two : ∀ b, H b ≠ none → b = sysModules ∨ (b = a ∧ K.lookup a = none)
  one : One H
theorem root_of (KX : K.In s₁.heap) (k1 : K.lookup sysModules = none) (ha1 : a ≠ sysModules) (hs : ∃ o, s₁.heap.get? sysModules = some o)
    (ha : s₁.heap.get? a = some { cls := .type "list", data := .seq vs.toArray })
    (hi : IntsAre vs ns) (hl : ns.length ≤ sizeLine) : ∃ H, Root K P w a ns s₁ H := by
  have rv := vals_ints hi
  have lv := hi.length
  obtain ⟨o1, e1⟩ := hs
  cases hk : K.lookup a with
  | some o =>
    have e := (KX a o hk).symm.trans ha
    cases e
    refine ⟨fun b => if b = sysModules then some (.frz o1 (.own 0)) else none, ?_,
      .inr ⟨_, vs.toArray, _, hk, rfl, rfl, rfl, by rw [List.size_toArray, lv]; exact hl, by simpa using rv⟩, ?_, ?_, ⟨o1, 0, if_pos rfl⟩⟩
    · intro b
      by_cases hb : b = sysModules
      · exact .inr ⟨o1, _, if_pos hb⟩
      · exact .inl (if_neg hb)
    · intro b u z
      by_cases hb : b = sysModules
      · have z' := (if_pos hb).symm.trans z
        cases z'
        subst hb
        exact ⟨e1, ⟨o1, e1⟩⟩
      · have z' := (if_neg hb).symm.trans z
        cases z'
    · intro b z
      by_cases hb : b = sysModules
      · exact .inl hb
      · exact absurd (if_neg hb) z
  | none =>
    let so : Obj := { cls := .type "list", data := .seq vs.toArray }
    refine ⟨fun b => if b = sysModules then some (.frz o1 (.own 0)) else if b = a then some (.frz so (.lst (ns.map V.int))) else none,
      ?_, .inl (.inr ⟨so, (if_neg ha1).trans (if_pos rfl)⟩), ?_, ?_, ⟨o1, 0, if_pos rfl⟩⟩
    · intro b
      by_cases hb : b = sysModules
      · exact .inr ⟨o1, _, if_pos hb⟩
      · by_cases hb2 : b = a
        · exact .inr ⟨so, _, (if_neg hb).trans (if_pos hb2)⟩
        · exact .inl ((if_neg hb).trans (if_neg hb2))
    · intro b u z
      by_cases hb : b = sysModules
      · have z' := (if_pos hb).symm.trans z
        cases z'
        subst hb
        exact ⟨e1, ⟨o1, e1⟩⟩
      · by_cases hb2 : b = a
        · have z' := ((if_neg hb).trans (if_pos hb2)).symm.trans z
          cases z'
          subst hb2
          exact ⟨ha, by rw [List.length_map]; exact hl, vs, _, rv, ha⟩
        · have z' := ((if_neg hb).trans (if_neg hb2)).symm.trans z
          cases z'
    · intro b z
      by_cases hb : b = sysModules
      · exact .inl hb
      · by_cases hb2 : b = a
        · exact .inr ⟨hb2, hk⟩
        · exact absurd ((if_neg hb).trans (if_neg hb2)) z
end
theorem script_at {r : PySem.W.WRecords} {cl : Str → Option Addr} {h : Heap} {a : Addr} {d : List PySem.W.WData} {as : List Addr}
    (x : PySem.W.ReadsAllW r cl h [Value.ref a] [PySem.W.WData.list d] as) : a ∈ as := by
  cases x with
  | cons r1 r2 =>
    cases r1 with
    | list => exact List.mem_append_left _ List.mem_cons_self
end PC

set_option Elab.async false
set_option linter.all false
set_option maxRecDepth 100000
set_option maxHeartbeats 2000000
/-! PcB: data that stays; steps of the heap; wider rules by values. -/
namespace PC
open PySem PySem.Spec PyProof.Rows L2

/-! ### what stays, and the pot -/
/-- the law's store of draws: a number to be read digit by digit, a number that is mixed -/
def Pot (p : Addr) (H : Hp) : Prop := ∃ a b : Int, H p = some (.lst [.int a, .int b]) ∧ 0 ≤ a ∧ 0 ≤ b ∧ b < 2147483647
/-- all that is tracked stays, but what stands at p -/
structure R (p : Addr) (H H' : Hp) : Prop where
  keep : ∀ b o, b ≠ p → H b = some o → H' b = some o
  frz : ∀ b o u, H b = some (.frz o u) → H' b = some (.frz o u)
  occ : H p ≠ none → H' p ≠ none
  pot : Pot p H → Pot p H'
  stay : ∀ b o, (∀ xs, o ≠ .lst xs) → (∀ kvs, o ≠ .dK kvs) → H b = some o → H' b = some o
theorem R.refl (p : Addr) (H : Hp) : R p H H := ⟨fun _ _ _ h => h, fun _ _ _ h => h, fun h => h, fun h => h, fun _ _ _ _ h => h⟩
theorem R.trans {p : Addr} {H H1 H2 : Hp} (a : R p H H1) (b : R p H1 H2) : R p H H2 :=
  ⟨fun c o n h => b.keep c o n (a.keep c o n h), fun c o u h => b.frz c o u (a.frz c o u h), fun h => b.occ (a.occ h), fun h => b.pot (a.pot h),
   fun c o n m h => b.stay c o n m (a.stay c o n m h)⟩
theorem R.of_same {p : Addr} {H H' : Hp} (h : Same H H') : R p H H' :=
  ⟨fun b o _ e => h b o e, fun b o u e => h b _ e, fun z w => z (h.free w), fun ⟨a, b, e, r⟩ => ⟨a, b, h _ _ e, r⟩, fun b o _ _ e => h b o e⟩
theorem same_new {n : Addr} {H : Hp} {o : HO} (h : H n = none) : Same H (upd H n o) := fun b u e => by
  rw [upd_ne (ne_of_none e h)]; exact e
theorem R.new {p n : Addr} {H : Hp} {o : HO} (h : H n = none) : R p H (upd H n o) := .of_same (same_new h)
theorem R.draw {p : Addr} {H : Hp} {a b : Int} {l : List V} (h : H p = some (.lst l)) (ho : ∀ x u, (HO.lst l) ≠ .frz x u) (ha : 0 ≤ a) (hb : 0 ≤ b) (hb2 : b < 2147483647) :
    R p H (upd H p (.lst [.int a, .int b])) := by
  have far : ∀ c u, (∀ xs, u ≠ .lst xs) → H c = some u → upd H p (.lst [.int a, .int b]) c = some u := fun c u n e => by
    by_cases z : c = p
    · subst z
      rw [h] at e
      exact absurd (Option.some.inj e).symm (n l)
    · rw [upd_ne z]
      exact e
  exact ⟨fun c u n e => (by rw [upd_ne n]; exact e), fun c x u e => far c _ (fun xs z => nomatch z) e,
    fun _ => (by rw [upd_same]; exact fun w => nomatch w), fun _ => ⟨a, b, upd_same, ha, hb, hb2⟩, fun c u n _ => far c u n⟩
/-- a new list that grew meanwhile -/
theorem R.over {p D : Addr} {H H' : Hp} {o : HO} (r : R p H H') (hD : H D = none) (hp : D ≠ p) : R p H (upd H' D o) :=
  ⟨fun b u n e => by rw [upd_ne (ne_of_none e hD)]; exact r.keep b u n e, fun b x u e => by rw [upd_ne (ne_of_none e hD)]; exact r.frz b x u e,
   fun z => by rw [upd_ne hp.symm]; exact r.occ z, fun z => by
    obtain ⟨a, b, e, q⟩ := r.pot z
    exact ⟨a, b, by rw [upd_ne hp.symm]; exact e, q⟩, fun b u n m e => by rw [upd_ne (ne_of_none e hD)]; exact r.stay b u n m e⟩
theorem R.one {p : Addr} {H H' : Hp} (r : R p H H') (h : One H) : One H' := by
  obtain ⟨o, u, e⟩ := h
  exact ⟨o, u, r.frz _ _ _ e⟩
theorem R.free {p a : Addr} {H H' : Hp} (r : R p H H') (n : a ≠ p) (h : H' a = none) : H a = none := by
  cases e : H a with
  | none => rfl
  | some o => rw [r.keep a o n e] at h; cases h
/-! ### data -/
def keyD : Key → PyData
  | .inl i => .int i
  | .inr x => .str x
mutual
/-- v shows the data d; none of its own objects stands at a place of Z -/
def Dat (K : PySem.W.Frag) (Z : List Addr) (H : Hp) : PyData → V → Prop
  | .none, v => v = .non
  | .bool b, v => v = .bl b
  | .int i, v => v = .int i
  | .str x, v => v = .str x
  | .list ds, v => ∃ a xs, v = .ref a ∧ a ∉ Z ∧ Rd H a (.lst xs) ∧ DatL K Z H ds xs
  | .tuple ds, v => ∃ a xs, v = .ref a ∧ (a ∉ Z ∨ SqT K (fun _ => none) a xs) ∧ SqT K H a xs ∧ DatL K Z H ds xs
  | .dict kvs, v => ∃ a es, v = .ref a ∧ a ∉ Z ∧ H a = some (.dK es) ∧ DatK K Z H kvs es
def DatL (K : PySem.W.Frag) (Z : List Addr) (H : Hp) : List PyData → List V → Prop
  | [], vs => vs = []
  | d :: ds, vs => ∃ v r, vs = v :: r ∧ Dat K Z H d v ∧ DatL K Z H ds r
def DatK (K : PySem.W.Frag) (Z : List Addr) (H : Hp) : List (PyData × PyData) → List (Key × V) → Prop
  | [], es => es = []
  | (k, d) :: r, es => ∃ kk v t, es = (kk, v) :: t ∧ keyD kk = k ∧ Dat K Z H d v ∧ DatK K Z H r t
end
section
variable {K : PySem.W.Frag} {p : Addr} {Z Z' : List Addr} {H H' : Hp}
theorem _root_.L2.Rd.up {a : Addr} {u : HO} (r : R p H H') (n : a ≠ p) (h : Rd H a u) : Rd H' a u := by
  rcases h with h | ⟨o, h⟩
  · exact .inl (r.keep _ _ n h)
  · exact .inr ⟨o, r.frz _ _ _ h⟩
theorem SqL.up {a : Addr} {xs : List V} (r : R p H H') (n : a ≠ p) (h : SqL K H a xs) : SqL K H' a xs := by
  rcases h with h | h
  · exact .inl (Rd.up r n h)
  · exact .inr h
theorem SqT.up {a : Addr} {xs : List V} (r : R p H H') (hp : p ∈ Z) (n : a ∉ Z ∨ SqT K (fun _ => none) a xs) (h : SqT K H a xs) : SqT K H' a xs := by
  rcases h with h | h
  · rcases n with n | n
    · exact .inl (Rd.up r (fun z => n (z ▸ hp)) h)
    · rcases n with (n | ⟨o, n⟩) | n
      · cases n
      · cases n
      · exact .inr n
  · exact .inr h
mutual
theorem Dat.up (r : R p H H') (hp : p ∈ Z) : ∀ (d : PyData) (v : V), Dat K Z H d v → Dat K Z H' d v
  | .none, v, h => h
  | .bool _, v, h => h
  | .int _, v, h => h
  | .str _, v, h => h
  | .list ds, v, h => by
    simp only [Dat] at h ⊢
    obtain ⟨a, xs, e, n, s, l⟩ := h
    exact ⟨a, xs, e, n, s.up r (fun z => n (z ▸ hp)), DatL.up r hp ds xs l⟩
  | .tuple ds, v, h => by
    simp only [Dat] at h ⊢
    obtain ⟨a, xs, e, n, s, l⟩ := h
    exact ⟨a, xs, e, n, SqT.up r hp n s, DatL.up r hp ds xs l⟩
  | .dict kvs, v, h => by
    simp only [Dat] at h ⊢
    obtain ⟨a, es, e, n, s, l⟩ := h
    exact ⟨a, es, e, n, r.keep _ _ (fun z => n (z ▸ hp)) s, DatK.up r hp kvs es l⟩
theorem DatL.up (r : R p H H') (hp : p ∈ Z) : ∀ (ds : List PyData) (vs : List V), DatL K Z H ds vs → DatL K Z H' ds vs
  | [], vs, h => h
  | d :: ds, vs, h => by
    simp only [DatL] at h ⊢
    obtain ⟨v, q, e, h1, h2⟩ := h
    exact ⟨v, q, e, Dat.up r hp d v h1, DatL.up r hp ds q h2⟩
theorem DatK.up (r : R p H H') (hp : p ∈ Z) : ∀ (ds : List (PyData × PyData)) (es : List (Key × V)), DatK K Z H ds es → DatK K Z H' ds es
  | [], vs, h => h
  | (k, d) :: ds, vs, h => by
    simp only [DatK] at h ⊢
    obtain ⟨kk, v, q, e, hk, h1, h2⟩ := h
    exact ⟨kk, v, q, e, hk, Dat.up r hp d v h1, DatK.up r hp ds q h2⟩
end
mutual
/-- one place more -/
theorem Dat.more {D : Addr} (hD : H D = none) : ∀ (d : PyData) (v : V), Dat K Z H d v → Dat K (D :: Z) H d v
  | .none, v, h => h
  | .bool _, v, h => h
  | .int _, v, h => h
  | .str _, v, h => h
  | .list ds, v, h => by
    simp only [Dat] at h ⊢
    obtain ⟨a, xs, e, n, s, l⟩ := h
    refine ⟨a, xs, e, fun z => ?_, s, DatL.more hD ds xs l⟩
    rcases List.mem_cons.mp z with z | z
    · subst z
      rcases s with s | ⟨o, s⟩ <;> (rw [hD] at s; cases s)
    · exact n z
  | .tuple ds, v, h => by
    simp only [Dat] at h ⊢
    obtain ⟨a, xs, e, n, s, l⟩ := h
    refine ⟨a, xs, e, ?_, s, DatL.more hD ds xs l⟩
    by_cases z : a = D
    · subst z
      rcases s with (s | ⟨o, s⟩) | s
      · rw [hD] at s; cases s
      · rw [hD] at s; cases s
      · exact .inr (.inr s)
    · rcases n with n | n
      · exact .inl fun q => (List.mem_cons.mp q).elim z n
      · exact .inr n
  | .dict kvs, v, h => by
    simp only [Dat] at h ⊢
    obtain ⟨a, es, e, n, s, l⟩ := h
    refine ⟨a, es, e, fun z => ?_, s, DatK.more hD kvs es l⟩
    rcases List.mem_cons.mp z with z | z
    · subst z
      rw [hD] at s; cases s
    · exact n z
theorem DatL.more {D : Addr} (hD : H D = none) : ∀ (ds : List PyData) (vs : List V), DatL K Z H ds vs → DatL K (D :: Z) H ds vs
  | [], vs, h => h
  | d :: ds, vs, h => by
    simp only [DatL] at h ⊢
    obtain ⟨v, q, e, h1, h2⟩ := h
    exact ⟨v, q, e, Dat.more hD d v h1, DatL.more hD ds q h2⟩
theorem DatK.more {D : Addr} (hD : H D = none) : ∀ (ds : List (PyData × PyData)) (es : List (Key × V)), DatK K Z H ds es → DatK K (D :: Z) H ds es
  | [], vs, h => h
  | (k, d) :: ds, vs, h => by
    simp only [DatK] at h ⊢
    obtain ⟨kk, v, q, e, hk, h1, h2⟩ := h
    exact ⟨kk, v, q, e, hk, Dat.more hD d v h1, DatK.more hD ds q h2⟩
end
mutual
/-- fewer places -/
theorem Dat.less (hz : ∀ a, a ∈ Z' → a ∈ Z) : ∀ (d : PyData) (v : V), Dat K Z H d v → Dat K Z' H d v
  | .none, v, h => h
  | .bool _, v, h => h
  | .int _, v, h => h
  | .str _, v, h => h
  | .list ds, v, h => by
    simp only [Dat] at h ⊢
    obtain ⟨a, xs, e, n, s, l⟩ := h
    exact ⟨a, xs, e, fun z => n (hz _ z), s, DatL.less hz ds xs l⟩
  | .tuple ds, v, h => by
    simp only [Dat] at h ⊢
    obtain ⟨a, xs, e, n, s, l⟩ := h
    exact ⟨a, xs, e, n.imp (fun n z => n (hz _ z)) id, s, DatL.less hz ds xs l⟩
  | .dict kvs, v, h => by
    simp only [Dat] at h ⊢
    obtain ⟨a, es, e, n, s, l⟩ := h
    exact ⟨a, es, e, fun z => n (hz _ z), s, DatK.less hz kvs es l⟩
theorem DatL.less (hz : ∀ a, a ∈ Z' → a ∈ Z) : ∀ (ds : List PyData) (vs : List V), DatL K Z H ds vs → DatL K Z' H ds vs
  | [], vs, h => h
  | d :: ds, vs, h => by
    simp only [DatL] at h ⊢
    obtain ⟨v, q, e, h1, h2⟩ := h
    exact ⟨v, q, e, Dat.less hz d v h1, DatL.less hz ds q h2⟩
theorem DatK.less (hz : ∀ a, a ∈ Z' → a ∈ Z) : ∀ (ds : List (PyData × PyData)) (es : List (Key × V)), DatK K Z H ds es → DatK K Z' H ds es
  | [], vs, h => h
  | (k, d) :: ds, vs, h => by
    simp only [DatK] at h ⊢
    obtain ⟨kk, v, q, e, hk, h1, h2⟩ := h
    exact ⟨kk, v, q, e, hk, Dat.less hz d v h1, DatK.less hz ds q h2⟩
end
mutual
/-- a place that is no data's, changed -/
theorem Dat.put {D : Addr} {o : HO} (hd : D ∈ Z) : ∀ (d : PyData) (v : V), Dat K Z H d v → Dat K Z (upd H D o) d v
  | .none, v, h => h
  | .bool _, v, h => h
  | .int _, v, h => h
  | .str _, v, h => h
  | .list ds, v, h => by
    simp only [Dat] at h ⊢
    obtain ⟨a, xs, e, n, s, l⟩ := h
    have nz : a ≠ D := fun z => n (z ▸ hd)
    refine ⟨a, xs, e, n, ?_, DatL.put hd ds xs l⟩
    rcases s with s | ⟨u, s⟩
    · exact .inl (by rw [upd_ne nz]; exact s)
    · exact .inr ⟨u, by rw [upd_ne nz]; exact s⟩
  | .tuple ds, v, h => by
    simp only [Dat] at h ⊢
    obtain ⟨a, xs, e, n, s, l⟩ := h
    refine ⟨a, xs, e, n, ?_, DatL.put hd ds xs l⟩
    rcases n with n | ((n | ⟨u, n⟩) | n)
    · have nz : a ≠ D := fun z => n (z ▸ hd)
      rcases s with (s | ⟨u, s⟩) | s
      · exact .inl (.inl (by rw [upd_ne nz]; exact s))
      · exact .inl (.inr ⟨u, by rw [upd_ne nz]; exact s⟩)
      · exact .inr s
    · cases n
    · cases n
    · exact .inr n
  | .dict kvs, v, h => by
    simp only [Dat] at h ⊢
    obtain ⟨a, es, e, n, s, l⟩ := h
    have nz : a ≠ D := fun z => n (z ▸ hd)
    exact ⟨a, es, e, n, by rw [upd_ne nz]; exact s, DatK.put hd kvs es l⟩
theorem DatL.put {D : Addr} {o : HO} (hd : D ∈ Z) : ∀ (ds : List PyData) (vs : List V), DatL K Z H ds vs → DatL K Z (upd H D o) ds vs
  | [], vs, h => h
  | d :: ds, vs, h => by
    simp only [DatL] at h ⊢
    obtain ⟨v, q, e, h1, h2⟩ := h
    exact ⟨v, q, e, Dat.put hd d v h1, DatL.put hd ds q h2⟩
theorem DatK.put {D : Addr} {o : HO} (hd : D ∈ Z) : ∀ (ds : List (PyData × PyData)) (es : List (Key × V)), DatK K Z H ds es → DatK K Z (upd H D o) ds es
  | [], vs, h => h
  | (k, d) :: ds, vs, h => by
    simp only [DatK] at h ⊢
    obtain ⟨kk, v, q, e, hk, h1, h2⟩ := h
    exact ⟨kk, v, q, e, hk, Dat.put hd d v h1, DatK.put hd ds q h2⟩
end
theorem Dat.lst {v : V} {ds : List PyData} (h : Dat K Z H (.list ds) v) : ∃ a xs, v = .ref a ∧ a ∉ Z ∧ Rd H a (.lst xs) ∧ DatL K Z H ds xs := by
  simpa only [Dat] using h
theorem Dat.tup {v : V} {ds : List PyData} (h : Dat K Z H (.tuple ds) v) : ∃ a xs, v = .ref a ∧ (a ∉ Z ∨ SqT K (fun _ => none) a xs) ∧ SqT K H a xs ∧ DatL K Z H ds xs := by
  simpa only [Dat] using h
theorem Dat.dct {v : V} {ds : List (PyData × PyData)} (h : Dat K Z H (.dict ds) v) : ∃ a es, v = .ref a ∧ a ∉ Z ∧ H a = some (.dK es) ∧ DatK K Z H ds es := by
  simpa only [Dat] using h
theorem DatL.cons_inv {d : PyData} {ds : List PyData} {vs : List V} (h : DatL K Z H (d :: ds) vs) : ∃ v r, vs = v :: r ∧ Dat K Z H d v ∧ DatL K Z H ds r := by
  simpa only [DatL] using h
theorem DatL.nil_inv {vs : List V} (h : DatL K Z H [] vs) : vs = [] := by simpa only [DatL] using h
theorem datL_nil : DatL K Z H [] [] := by simp only [DatL]
theorem datL_cons {d : PyData} {ds : List PyData} {v : V} {vs : List V} (h : Dat K Z H d v) (l : DatL K Z H ds vs) : DatL K Z H (d :: ds) (v :: vs) := by
  simp only [DatL]; exact ⟨v, vs, rfl, h, l⟩
theorem DatL.length : ∀ {ds : List PyData} {vs : List V}, DatL K Z H ds vs → vs.length = ds.length
  | [], vs, h => by rw [h.nil_inv]; rfl
  | d :: ds, vs, h => by
    obtain ⟨v, q, e, h1, h2⟩ := h.cons_inv
    rw [e, List.length_cons, List.length_cons, DatL.length h2]
theorem DatL.get : ∀ {ds : List PyData} {vs : List V} {i : Nat} {d : PyData}, DatL K Z H ds vs → ds[i]? = some d → ∃ v, vs[i]? = some v ∧ Dat K Z H d v
  | [], _, _, _, _, e => by simp at e
  | d :: ds, vs, i, x, h, e => by
    obtain ⟨v, q, rfl, h1, h2⟩ := h.cons_inv
    cases i with
    | zero => simp at e; subst e; exact ⟨v, rfl, h1⟩
    | succ i => exact DatL.get (i := i) h2 (by simpa using e)
theorem DatL.append : ∀ {ds es : List PyData} {vs ws : List V}, DatL K Z H ds vs → DatL K Z H es ws → DatL K Z H (ds ++ es) (vs ++ ws)
  | [], es, vs, ws, h, g => by
    have e := h.nil_inv
    subst e; exact g
  | d :: ds, es, vs, ws, h, g => by
    obtain ⟨v, q, rfl, h1, h2⟩ := h.cons_inv
    exact datL_cons h1 (DatL.append h2 g)
theorem DatL.drop : ∀ {ds : List PyData} {vs : List V} (n : Nat), DatL K Z H ds vs → DatL K Z H (ds.drop n) (vs.drop n)
  | _, _, 0, h => h
  | [], vs, n + 1, h => by
    have e := h.nil_inv
    subst e; exact datL_nil
  | d :: ds, vs, n + 1, h => by
    obtain ⟨v, q, rfl, h1, h2⟩ := h.cons_inv
    exact DatL.drop n h2
theorem DatL.take : ∀ {ds : List PyData} {vs : List V} (n : Nat), DatL K Z H ds vs → DatL K Z H (ds.take n) (vs.take n)
  | _, _, 0, h => by rw [List.take_zero, List.take_zero]; exact datL_nil
  | [], vs, n + 1, h => by
    have e := h.nil_inv
    subst e; exact datL_nil
  | d :: ds, vs, n + 1, h => by
    obtain ⟨v, q, rfl, h1, h2⟩ := h.cons_inv
    exact datL_cons h1 (DatL.take n h2)
theorem DatL.ints : ∀ {ns : List Int} {vs : List V}, DatL K Z H (ns.map .int) vs → vs = ns.map .int
  | [], vs, h => h.nil_inv
  | n :: ns, vs, h => by
    obtain ⟨v, q, rfl, h1, h2⟩ := DatL.cons_inv (d := .int n) (ds := ns.map .int) h
    simp only [Dat] at h1
    rw [h1, DatL.ints h2]; rfl
theorem DatL.bls : ∀ {ns : List Bool} {vs : List V}, DatL K Z H (ns.map .bool) vs → vs = ns.map .bl
  | [], vs, h => h.nil_inv
  | n :: ns, vs, h => by
    obtain ⟨v, q, rfl, h1, h2⟩ := DatL.cons_inv (d := .bool n) (ds := ns.map .bool) h
    simp only [Dat] at h1
    rw [h1, DatL.bls h2]; rfl
end

/-! ### its objects, in the heap of the machine -/
section
variable {X : Cx} {pins : List (Addr × Obj)} {σ : L2.St} {H : Hp} {s : Shared} {Z : List Addr}
theorem keyD_reads {k : Key} {u : Value} {h : Heap} (e : keyIs k u = true) : Reads h u (keyD k) [] := by
  rcases keyIs_shape e with ⟨i, t, rfl, rfl⟩ | ⟨x, t, rfl, rfl⟩
  · exact .int i t
  · exact .str x t
theorem notSys {a : Addr} {xs : List V} (I : Inv X pins σ H s) (o1 : One H) (h : SqL X.K H a xs) : a ≠ sysModules := by
  obtain ⟨o, u, e⟩ := o1
  intro z
  subst z
  rcases h with (h | ⟨o', h⟩) | ⟨o', _, _, h, _⟩
  · rw [e] at h; cases h
  · rw [e] at h; cases h
  · have q := (I.bs _ _ (I.mod.kin _ _ h)).2
    rw [e] at q; cases q
theorem sqL_tr {a : Addr} {xs : List V} (h : SqL X.K H a xs) : H a ≠ none ∨ X.K.lookup a ≠ none := by
  rcases h with (h | ⟨_, h⟩) | ⟨_, _, _, h, _⟩
  · exact .inl (by rw [h]; exact fun z => nomatch z)
  · exact .inl (by rw [h]; exact fun z => nomatch z)
  · exact .inr (by rw [h]; exact fun z => nomatch z)
theorem sqT_tr {a : Addr} {xs : List V} (h : SqT X.K H a xs) : H a ≠ none ∨ X.K.lookup a ≠ none := by
  rcases h with (h | ⟨_, h⟩) | ⟨_, _, _, h, _⟩
  · exact .inl (by rw [h]; exact fun z => nomatch z)
  · exact .inl (by rw [h]; exact fun z => nomatch z)
  · exact .inr (by rw [h]; exact fun z => nomatch z)
mutual
theorem Dat.readsIn (I : Inv X pins σ H s) (o1 : One H) {hp : Heap} (hk : ∀ b o, s.heap.get? b = some o → (H b ≠ none ∨ X.K.lookup b ≠ none) → hp.get? b = some o) : ∀ (d : PyData) (v : V) (u : Value), Dat X.K Z H d v → RelV v u →
    ∃ as, Reads hp u d as ∧ sysModules ∉ as
  | .none, _, _, h, r => by
    simp only [Dat] at h
    subst h
    cases (show _ = Value.none from r)
    exact ⟨_, .none, by simp⟩
  | .bool b, _, _, h, r => by
    simp only [Dat] at h
    subst h
    cases (show _ = Value.bool b from r)
    exact ⟨_, .bool b, by simp⟩
  | .int i, _, _, h, r => by
    simp only [Dat] at h
    subst h
    obtain ⟨t, rfl⟩ := (show ∃ t, _ = Value.int i t from r)
    exact ⟨_, .int i t, by simp⟩
  | .str x, _, _, h, r => by
    simp only [Dat] at h
    subst h
    obtain ⟨t, rfl⟩ := (show ∃ t, _ = Value.str x t from r)
    exact ⟨_, .str x t, by simp⟩
  | .list ds, _, _, h, r => by
    obtain ⟨a, xs, rfl, n, hs, hl⟩ := h.lst
    cases (show _ = Value.ref a from r)
    obtain ⟨its, rv, ⟨o, k, ho, hc, _, hd⟩, _⟩ := I.list (.inl hs)
    obtain ⟨as, hr, ns⟩ := DatL.readsIn I o1 hk ds xs its hl rv
    refine ⟨_, .list (hk _ _ ho (sqL_tr (.inl hs))) hc hd hr, fun z => ?_⟩
    rcases List.mem_cons.mp z with z | z
    · exact notSys I o1 (.inl hs) z.symm
    · exact ns z
  | .tuple ds, _, _, h, r => by
    obtain ⟨a, xs, rfl, n, hs, hl⟩ := h.tup
    cases (show _ = Value.ref a from r)
    obtain ⟨its, rv, ⟨o, ho, hc, k, hd⟩, _⟩ := I.tuple hs
    obtain ⟨as, hr, ns⟩ := DatL.readsIn I o1 hk ds xs its hl rv
    exact ⟨_, .tuple (hk _ _ ho (sqT_tr hs)) hc hd hr, ns⟩
  | .dict kvs, _, _, h, r => by
    obtain ⟨a, es, rfl, n, hs, hl⟩ := h.dct
    cases (show _ = Value.ref a from r)
    obtain ⟨_, hsys, vs, rel, o, en, ep, ho, hx, hd, _, hp, _⟩ := (show ObjOk X.prog X.w H s.heap a (.dK es) from I.hok a _ hs)
    obtain ⟨as, bs, r1, r2, n1, n2⟩ := DatK.readsIn I o1 hk kvs es vs en.toList hl rel hp
    refine ⟨_, .dict (hk _ _ ho (.inl (by rw [hs]; exact fun z => nomatch z))) hx.1 hd r1 r2, fun z => ?_⟩
    rcases List.mem_append.mp z with z | z
    · rcases List.mem_cons.mp z with z | z
      · rw [← z] at hsys; simp at hsys
      · exact n1 z
    · exact n2 z
theorem DatL.readsIn (I : Inv X pins σ H s) (o1 : One H) {hp : Heap} (hk : ∀ b o, s.heap.get? b = some o → (H b ≠ none ∨ X.K.lookup b ≠ none) → hp.get? b = some o) : ∀ (ds : List PyData) (vs : List V) (us : List Value), DatL X.K Z H ds vs → Vals vs us →
    ∃ as, ReadsAll hp us ds as ∧ sysModules ∉ as
  | [], vs, us, h, r => by
    simp only [DatL] at h
    subst h
    cases r
    exact ⟨_, .nil, by simp⟩
  | d :: ds, vs, us, h, r => by
    simp only [DatL] at h
    obtain ⟨v, q, rfl, h1, h2⟩ := h
    cases r with
    | cons r1 r2 =>
      obtain ⟨as, q1, n1⟩ := Dat.readsIn I o1 hk d v _ h1 r1
      obtain ⟨bs, q2, n2⟩ := DatL.readsIn I o1 hk ds q _ h2 r2
      exact ⟨_, .cons q1 q2, fun z => (List.mem_append.mp z).elim n1 n2⟩
theorem DatK.readsIn (I : Inv X pins σ H s) (o1 : One H) {hp : Heap} (hk : ∀ b o, s.heap.get? b = some o → (H b ≠ none ∨ X.K.lookup b ≠ none) → hp.get? b = some o) : ∀ (ds : List (PyData × PyData)) (es : List (Key × V)) (vs : List (Key × Value)) (en : List DictEntry),
    DatK X.K Z H ds es → KV es vs → Pairs (mixKind X.prog X.w) en vs →
    ∃ as bs, ReadsAll hp (en.map (·.key)) (ds.map (·.1)) as ∧ ReadsAll hp (en.map (·.val)) (ds.map (·.2)) bs ∧ sysModules ∉ as ∧ sysModules ∉ bs
  | [], es, vs, en, h, r, pr => by
    simp only [DatK] at h
    subst h
    cases r
    cases pr
    exact ⟨_, _, .nil, .nil, by simp, by simp⟩
  | (k, d) :: ds, es, vs, en, h, r, pr => by
    simp only [DatK] at h
    obtain ⟨kk, v, q, rfl, hkk, h1, h2⟩ := h
    cases r with
    | cons r1 r2 =>
      obtain ⟨e1, e2⟩ := r1
      cases pr with
      | cons p1 p2 p3 =>
        obtain ⟨as, q1, n1⟩ := Dat.readsIn I o1 hk d v _ h1 e2
        obtain ⟨bs, cs, q2, q3, n2, n3⟩ := DatK.readsIn I o1 hk ds q _ _ h2 r2 p3
        have kr : Reads hp _ (keyD _) [] := keyD_reads (h := hp) p1
        rw [show keyD _ = k from (congrArg keyD e1.symm).trans hkk] at kr
        rw [← p2] at q1
        exact ⟨_, _, .cons kr q2, .cons q1 q3, fun z => n2 (by simpa using z), fun z => (List.mem_append.mp z).elim n1 n3⟩
end
theorem Dat.reads (I : Inv X pins σ H s) (o1 : One H) (d : PyData) (v : V) (u : Value) (h : Dat X.K Z H d v) (r : RelV v u) : ∃ as, Reads s.heap u d as ∧ sysModules ∉ as := Dat.readsIn I o1 (fun _ _ e _ => e) d v u h r
/-- what is tracked, or stands among the constants -/
theorem ground_of (X : Cx) (H : Hp) (s : Shared) : ∃ hp : Heap, (∀ b o, s.heap.get? b = some o → (H b ≠ none ∨ X.K.lookup b ≠ none) → hp.get? b = some o) ∧ (∀ b o, hp.get? b = some o → s.heap.get? b = some o) ∧ ∀ b, H b = none → X.K.lookup b = none → hp.get? b = none := by
  obtain ⟨G, g1, g2⟩ := restrict s.heap fun b => (H b).isSome || (X.K.lookup b).isSome
  refine ⟨G, fun b o e t => ?_, fun b o e => ?_, fun b h1 h2 => g2 b (by rw [h1, h2]; rfl)⟩
  · rw [g1 b (by
      rcases t with t | t
      · cases q : H b with
        | none => exact absurd q t
        | some x => rfl
      · cases q : X.K.lookup b with
        | none => exact absurd q t
        | some x => simp)]
    exact e
  · cases q : ((H b).isSome || (X.K.lookup b).isSome) with
    | false => rw [g2 b q] at e; cases e
    | true => rw [← g1 b q]; exact e
end

/-! ### sizes of data: depth at most k, bulk at most n -/
mutual
/-- its texts are made of code points -/
def lay : PyData → Bool
  | .none => true
  | .bool _ => true
  | .int _ => true
  | .str x => PyData.strOk x
  | .list xs => layL xs
  | .tuple xs => layL xs
  | .dict kvs => layK kvs
def layL : List PyData → Bool
  | [] => true
  | x :: xs => lay x && layL xs
def layK : List (PyData × PyData) → Bool
  | [] => true
  | (k, v) :: xs => lay k && lay v && layK xs
end
mutual
theorem canLay_of : ∀ d : PyData, lay d = true → d.hasDict = false → d.canLay0 = true
  | .none, _, _ => rfl
  | .bool _, _, _ => rfl
  | .int _, _, _ => rfl
  | .str x, h, _ => by simpa only [lay, PyData.canLay0] using h
  | .list xs, h, g => by
    simp only [lay] at h
    simp only [PyData.hasDict] at g
    simp only [PyData.canLay0]
    exact canLayAll_of xs h g
  | .tuple xs, h, g => by
    simp only [lay] at h
    simp only [PyData.hasDict] at g
    simp only [PyData.canLay0]
    exact canLayAll_of xs h g
  | .dict kvs, _, g => by simp only [PyData.hasDict] at g; cases g
theorem canLayAll_of : ∀ d : List PyData, layL d = true → PyData.hasDictAll d = false → PyData.canLayAll0 d = true
  | [], _, _ => rfl
  | x :: xs, h, g => by
    simp only [layL, Bool.and_eq_true] at h
    simp only [PyData.hasDictAll, Bool.or_eq_false_iff] at g
    simp only [PyData.canLayAll0, canLay_of x h.1 g.1, canLayAll_of xs h.2 g.2, Bool.and_self]
end
structure Tame (d : PyData) (k n : Nat) : Prop where
  show_ : d.showable = true
  short : d.leavesShort 300 = true
  lay : lay d = true
  depth : d.depth ≤ k
  bulk : d.bulk ≤ n
structure TameL (d : List PyData) (k n : Nat) : Prop where
  show_ : PyData.showableAll d = true
  short : PyData.leavesShortAll 300 d = true
  lay : layL d = true
  depth : PyData.depthAll d ≤ k
  bulk : PyData.bulkAll d ≤ n
section
variable {k n j m : Nat} {d : PyData} {ds : List PyData}
theorem Tame.mono (h : Tame d k n) (a : k ≤ j) (l : n ≤ m) : Tame d j m := ⟨h.1, h.2, h.3, Nat.le_trans h.4 a, Nat.le_trans h.5 l⟩
theorem TameL.mono (h : TameL ds k n) (a : k ≤ j) (l : n ≤ m) : TameL ds j m := ⟨h.1, h.2, h.3, Nat.le_trans h.4 a, Nat.le_trans h.5 l⟩
theorem Tame.len (h : Tame d k n) (hn : n ≤ 50000) : d.shown.length ≤ sizeLine := by
  have := PyData.shown_le_bulk 300 (by decide) d h.short
  have := h.bulk
  rw [sizeLine_eq]
  omega
theorem tame_bool {b : Bool} : Tame (.bool b) 1 0 := ⟨rfl, rfl, rfl, by simp [PyData.depth], by simp [PyData.bulk]⟩
theorem log2_small {i : Int} {k : Nat} (hk : 0 < k) (h : i.natAbs < 2 ^ k) : i.natAbs.log2 < k := by
  by_cases z : i.natAbs = 0
  · rw [z]; simpa using hk
  · exact (Nat.log2_lt z).mpr h
theorem tame_int {i : Int} (h : i.natAbs < 2 ^ 250) : Tame (.int i) 1 0 := by
  have hl := log2_small (by decide) h
  refine ⟨?_, ?_, rfl, by simp [PyData.depth], by simp [PyData.bulk]⟩
  · simp only [PyData.showable, decide_eq_true_eq]
    omega
  · simp only [PyData.leavesShort, decide_eq_true_eq, PyData.shown]
    have e := int_text_length_le (a := i) (k := 250) (by decide) hl
    have e2 := PySem.ofString_length (toString i)
    exact decide_eq_true (by omega)
theorem tame_str {x : Str} (h : x.length ≤ n) (hc : PyData.strOk x = true) : Tame (.str x) 1 n := by
  refine ⟨rfl, ?_, by simpa only [lay] using hc, by simp [PyData.depth], by simpa only [PyData.bulk] using (show x.cps.size ≤ n from h)⟩
  simp only [PyData.leavesShort, List.all_eq_true, decide_eq_true_eq]
  intro c hm
  have z : c < 1114112 := by
    unfold PyData.strOk at hc
    rw [← Array.all_toList, List.all_eq_true] at hc
    exact of_decide_eq_true (hc c hm)
  exact Nat.lt_trans z (by decide)
theorem tameL_nil : TameL [] 0 0 := ⟨rfl, rfl, rfl, by simp [PyData.depthAll], by simp [PyData.bulkAll]⟩
theorem tameL_cons (h : Tame d k m) (l : TameL ds k n) : TameL (d :: ds) k (m + n + 1) := by
  refine ⟨?_, ?_, ?_, ?_, ?_⟩
  · simp only [PyData.showableAll, h.1, l.1, Bool.and_self]
  · simp only [PyData.leavesShortAll, h.2, l.2, Bool.and_self]
  · simp only [layL, h.3, l.3, Bool.and_self]
  · have := h.4; have := l.4
    simp only [PyData.depthAll]
    omega
  · have := h.5; have := l.5
    simp only [PyData.bulkAll]
    omega
theorem tame_lst (l : TameL ds k n) : Tame (.list ds) (k + 1) n := by
  have := l.4; have := l.5
  refine ⟨by simpa only [PyData.showable] using l.1, by simpa only [PyData.leavesShort] using l.2, by simpa only [PC.lay] using l.3, ?_, ?_⟩
  · simp only [PyData.depth]; omega
  · simp only [PyData.bulk]; omega
theorem tame_tup (l : TameL ds k n) : Tame (.tuple ds) (k + 1) n := by
  have := l.4; have := l.5
  refine ⟨by simpa only [PyData.showable] using l.1, by simpa only [PyData.leavesShort] using l.2, by simpa only [PC.lay] using l.3, ?_, ?_⟩
  · simp only [PyData.depth]; omega
  · simp only [PyData.bulk]; omega
theorem TameL.get (l : TameL ds k n) (h : d ∈ ds) : Tame d k n := by
  obtain ⟨a, b, f, c, e⟩ := l
  induction ds with
  | nil => cases h
  | cons x r ih =>
    simp only [PyData.showableAll, PyData.leavesShortAll, layL, Bool.and_eq_true] at a b f
    simp only [PyData.depthAll, PyData.bulkAll] at c e
    rcases List.mem_cons.mp h with z | z
    · subst z
      exact ⟨a.1, b.1, f.1, by omega, by omega⟩
    · exact ih z a.2 b.2 f.2 (by omega) (by omega)
theorem Tame.shaped (t : Tame d k n) (hk : k ≤ 64) (h : d.hasDict = false) : SeqAt.shaped d = true := by
  have := t.depth
  unfold SeqAt.shaped
  rw [canLay_of d t.lay h, decide_eq_true (by omega)]
  rfl
theorem tameL_of : ∀ {ds : List PyData}, (∀ d ∈ ds, Tame d k m) → TameL ds k (ds.length * (m + 1))
  | [], h => tameL_nil.mono (by omega) (by omega)
  | d :: ds, h => by
    have z := tameL_cons (h d (List.mem_cons_self ..)) (tameL_of fun x hx => h x (List.mem_cons_of_mem _ hx))
    refine z.mono (Nat.le_refl _) ?_
    rw [List.length_cons, Nat.add_mul, Nat.one_mul]
    omega
end

/-! ### repr -/
section
variable {X : Cx}
def rRepr (K : PySem.W.Frag) : List V → Hp → VK → Prop := fun xs H Q =>
  ∃ Z v d, xs = [v] ∧ One H ∧ Dat K Z H d v ∧ Tame d 40 50000 ∧ Q (.str d.shown) H
theorem call_reprU (hg : GOk X) (hu : X.A.units + 64 < cLine) : CallR X (.builtin "repr") (rRepr X.K) := by
  intro pins s σ H xs us Q I r h
  obtain ⟨Z, v, d, rfl, o1, hd, t, q⟩ := h
  obtain ⟨u, rfl, rv⟩ := vals1 r
  obtain ⟨hp, k1, k2, k3⟩ := ground_of X H s
  obtain ⟨as, hr', ns⟩ := Dat.readsIn I o1 k1 d v u hd rv
  have hd' := t.depth
  cases d with
  | none =>
    simp only [Dat] at hd
    subst hd
    cases (show _ = Value.none from rv)
    exact P.repr_of_none ⟨.str _, H, I.tok _, ⟨_, rfl⟩, q⟩
  | bool b =>
    simp only [Dat] at hd
    subst hd
    cases (show _ = Value.bool b from rv)
    refine P.repr_of_bool ?_
    cases b with
    | true => exact ⟨.str _, H, I.tok _, ⟨_, rfl⟩, q⟩
    | false => exact ⟨.str _, H, I.tok _, ⟨_, rfl⟩, q⟩
  | int i =>
    simp only [Dat] at hd
    subst hd
    obtain ⟨tk, rfl⟩ := (show ∃ t, _ = Value.int i t from rv)
    have sh : i.natAbs.log2 < 1920 := by simpa only [PyData.showable, decide_eq_true_eq] using t.show_
    exact P.repr_of_int sh ⟨.str _, H, I.tok _, ⟨_, rfl⟩, q⟩
  | str x =>
    simp only [Dat] at hd
    subst hd
    obtain ⟨tk, rfl⟩ := (show ∃ t, _ = Value.str x t from rv)
    exact P.repr_of_str ⟨.str _, H, I.tok _, ⟨_, rfl⟩, q⟩ (by simpa only [PyData.shown] using t.len (by decide))
  | list ds =>
    obtain ⟨a, ys, rfl, _⟩ := hd.lst
    cases (show _ = Value.ref a from rv)
    exact repr_ref hg I k2 k3 hr' t.show_ ns (by omega) (t.len (by decide)) q
  | tuple ds =>
    obtain ⟨a, ys, rfl, _⟩ := hd.tup
    cases (show _ = Value.ref a from rv)
    exact repr_ref hg I k2 k3 hr' t.show_ ns (by omega) (t.len (by decide)) q
  | dict ds =>
    obtain ⟨a, ys, rfl, _⟩ := hd.dct
    cases (show _ = Value.ref a from rv)
    exact repr_ref hg I k2 k3 hr' t.show_ ns (by omega) (t.len (by decide)) q
theorem call_repr {k : Nat} (hg : GOk X) (hr : Room k X.A) : CallR X (.builtin "repr") (rRepr X.K) := call_reprU hg hr.units
end
end PC

set_option Elab.async false
set_option linter.all false
set_option maxRecDepth 100000
set_option maxHeartbeats 2000000
/-! PcC: wider rules by values, and what they ask of data. -/
namespace PC
open PySem PySem.Spec PyProof.Rows L2

section
variable {X : Cx}
/-- divmod by a great positive divisor -/
theorem call_divmodW : CallR X (.builtin "divmod") (fun xs H Q => ∃ i j, xs = [.int i, .int j] ∧ CDivW i j ∧
    ∀ p, H p = none → Q (.ref p) (upd H p (.tup [.int (i / j), .int (i % j)]))) := by
  intro pins s σ H xs us Q I r h
  obtain ⟨i, j, rfl, ⟨h1, h2⟩, q⟩ := h
  obtain ⟨u, w', rfl, ⟨t, rfl⟩, ⟨t', rfl⟩⟩ := vals2 r
  refine divmod_int (by omega) ?_ (.inl (PyProof.noPylong_of_log2 h2))
  have e1 : i.fdiv j = i / j := Int.fdiv_eq_ediv_of_nonneg i (by omega)
  have e2 : i.fmod j = i % j := Int.fmod_eq_emod_of_nonneg i (by omega)
  rw [e1, e2]
  refine ⟨.ref s.heap.objs.size, _, I.laid (o := .tup [.int (i / j), .int (i % j)]) (fun b o e => Heap.get?_push_of_some _ e) (Nat.le_refl _)
    ⟨by rw [sizeLine_eq]; simp, [.int (i / j) s.toks, .int (i % j) (s.toks + 1)], .cons ⟨_, rfl⟩ (.cons ⟨_, rfl⟩ .nil), ?_⟩,
    rfl, q _ (I.hok.fresh (Nat.le_refl _))⟩
  exact ⟨_, Heap.get?_push_size s.heap rfl, rfl, 0, rfl⟩

/-! ### + -/
theorem rd_lst {pins : List (Addr × Obj)} {σ : L2.St} {H : Hp} {s : Shared} {a : Addr} {xs : List V} (I : Inv X pins σ H s) (h : Rd H a (.lst xs)) :
    ∃ (its : List Value) (n : Nat), Vals xs its ∧ xs.length ≤ sizeLine ∧
      s.heap.get? a = some { cls := .type "list", data := .seq its.toArray n } := by
  obtain ⟨z, its, n, r, e⟩ := (show ObjOk X.prog X.w H s.heap a (.lst xs) from h.ok I.hok)
  exact ⟨its, n, r, z, e⟩
def rCatL : R2 := fun x y H Q => ∃ l b xs zs, x = .ref l ∧ y = .ref b ∧ Rd H l (.lst xs) ∧ Rd H b (.lst zs) ∧
  xs.length + zs.length ≤ sizeLine ∧ ∀ p, H p = none → Q (.ref p) (upd H p (.lst (xs ++ zs)))
theorem op_catL : OpR X (binaryOp .Add) rCatL := by
  intro pins s σ H x y v u Q I rx ry h
  obtain ⟨l, b, xs, zs, rfl, rfl, hH, hB, hz, q⟩ := h
  cases (show v = Value.ref l from rx)
  cases (show u = Value.ref b from ry)
  obtain ⟨its, n, r, hl, e⟩ := rd_lst I hH
  obtain ⟨its2, n2, r2, hl2, e2⟩ := rd_lst I hB
  have le1 := r.length
  have le2 := r2.length
  refine PySem.P.add_list e e2 ?_ (by rw [List.size_toArray, List.size_toArray]; omega)
  have ea : its.toArray ++ its2.toArray = (its ++ its2).toArray := by simp
  rw [ea]
  exact ⟨.ref _, _, I.lnew (t' := s.toks) (r.append r2) (by rw [List.length_append]; omega), rfl, q _ I.fresh⟩
/-- tuples, the left one empty: the right one itself -/
def rCatT0 (K : PySem.W.Frag) : R2 := fun x y H Q => ∃ a b ys, x = .ref a ∧ y = .ref b ∧ SqT K H a [] ∧ SqT K H b ys ∧ Q (.ref b) H
theorem op_catT0 : OpR X (binaryOp .Add) (rCatT0 X.K) := by
  intro pins s σ H x y v u Q I rx ry h
  obtain ⟨a, b, ys, rfl, rfl, ha, hb, q⟩ := h
  cases (show v = Value.ref a from rx)
  cases (show u = Value.ref b from ry)
  obtain ⟨its, r1, p1, _⟩ := I.tuple ha
  obtain ⟨its2, r2, p2, _⟩ := I.tuple hb
  obtain ⟨⟨cls, dd, data, sl⟩, ho, hc, n, hd⟩ := id p1
  obtain ⟨⟨cls2, dd2, data2, sl2⟩, ho2, hc2, n2, hd2⟩ := id p2
  simp only at hc hd hc2 hd2
  subst hc hd hc2 hd2
  cases r1
  exact concat_meets ⟨_, ho, rfl⟩ ⟨_, ho2, rfl⟩ noFill_tuple_add seq_tuple_add PySem.F.slot_tuple_add PySem.F.entry_tuple_add
    (PySem.F.args_tuple_add_2 _ _) (tuple_addW0 a b _ _ n n2 dd dd2 sl sl2 rfl) ⟨ho, ho2, ⟨.ref b, H, I, rfl, q⟩⟩
def rAddI : R2 := rI0 fun i j => .int (i + j)
def rAddS : R2 := fun x y H Q => ∃ i j, x = .str i ∧ y = .str j ∧ i.length + j.length ≤ sizeLine ∧ Q (.str (i ++ j)) H
/-- + of ints, texts, lists, tuples -/
def rAdd (K : PySem.W.Frag) : R2 := fun x y H Q => rAddI x y H Q ∨ rAddS x y H Q ∨ rCatL x y H Q ∨ rCatT0 K x y H Q ∨ rCatT K x y H Q
theorem op_addA : OpR X (binaryOp .Add) (rAdd X.K) := OpR.or op_add (OpR.or op_add_str (OpR.or op_catL (OpR.or op_catT0 op_catT)))

/-! ### slices -/
theorem getItem_whole {prog : Program} {w : World} {A : Around} {E : Value → Shared → Prop} {s : Shared} {t sl : Addr} {items : Array Value} {vl vu : Value}
    {lo hi : Option Int} {Q : Value → Shared → Prop} (ht : IsTup s.heap t items) (hs : s.heap.IsSliceOf sl vl vu .none)
    (pl : IsPart vl lo) (pu : IsPart vu hi) (hw : HT.sIx items.size 0 lo = 0 ∧ HT.sIx items.size items.size hi = items.size)
    (h : Q (.ref t) s) (hsz : items.size ≤ sizeLine) : wpAny (model prog w) A (getItem (.ref t) (.ref sl)) Q E s := by
  obtain ⟨os, hos, hcs, hds⟩ := id hs
  have hTs : s.TypeIs (.ref sl) "slice" := ⟨os, hos, hcs⟩
  unfold getItem
  try with_reducible refine wpAny_holding ?_
  first | refine wpAny_bind (wpAny_pure ?_) | skip
  refine wpAny_bind (wpAny_sequenceKey ht.typeIs (by decide) ?_)
  refine wpAny_bind (wpAny_callSpecial?_slot (name := Str.ofString "__getitem__") ht.typeIs PyProof.Rows.slot_tuple_getitem
    (wpAny_call_entry PyProof.Rows.slot_tuple_getitem ht.typeIs entry_tuple_getitem ?_ (args_tuple_getitem _ _)))
  show wpAny _ _ (Builtin.Tuple.tupleItemsOf (.ref t) >>= _) _ _ s
  refine wpAny_bind (tupleItemsOf_ ht ?_)
  refine wpAny_bind (wpAny_typeOf hTs ?_)
  rw [if_pos (by decide)]
  refine wpAny_bind (HT.sliceApplied_gen hs pl pu ?_)
  have hyes : ((((HT.sIx items.size 0 lo : Nat) : Int) == 0 && (1 : Int) == 1 &&
      (HT.sIx items.size items.size hi - HT.sIx items.size 0 lo) == items.size) = true) := by
    rw [hw.1, hw.2]; simp
  show wpAny _ _ (if (((HT.sIx items.size 0 lo : Nat) : Int) == 0 && (1 : Int) == 1 &&
      (HT.sIx items.size items.size hi - HT.sIx items.size 0 lo) == items.size) = true then _ else _) _ _ s
  rw [if_pos hyes]
  show wpAny _ _ (Builtin.Tuple.tupleIsExact (.ref t) >>= _) _ _ s
  unfold Builtin.Tuple.tupleIsExact
  refine wpAny_bind (wpAny_bind (wpAny_typeOf ht.typeIs (wpAny_pure ?_)))
  rw [if_pos (by decide)]
  first
    | exact ⟨_, rfl, wpAny_pure h⟩
    | exact wpAny_bind (wpAny_pure ⟨_, rfl, wpAny_pure h⟩)
    | exact wpAny_pure ⟨_, rfl, wpAny_pure h⟩
    | (wp_walk; exact ⟨_, rfl, wpAny_pure h⟩)
def rSlT0 (K : PySem.W.Frag) : V → Option Int → Option Int → Hp → VK → Prop := fun x lo hi H Q => ∃ a xs, x = .ref a ∧ SqT K H a xs ∧
  (HT.sIx xs.length 0 lo = 0 ∧ HT.sIx xs.length xs.length hi = xs.length) ∧ Q (.ref a) H
theorem sl_tup0 : SlR X (rSlT0 X.K) := by
  intro pins s σ H x v vl vu lo hi sl Q I rx hs pl pu h
  obtain ⟨a, xs, rfl, hx, hw, q⟩ := h
  cases (show v = Value.ref a from rx)
  obtain ⟨its, r, ht, hz⟩ := I.tuple hx
  have hlen : its.toArray.size = xs.length := by rw [List.size_toArray]; exact r.length.symm
  exact ⟨"tuple", _, PyProof.Rows.slot_tuple_getitem.lookup, ht.typeIs,
    getItem_whole ht hs pl pu (by rw [hlen]; exact hw) ⟨.ref a, H, I, rfl, q⟩ (by rw [hlen]; exact hz)⟩
/-- a[lo:hi] of lists, tuples, texts -/
def rSl (K : PySem.W.Frag) : V → Option Int → Option Int → Hp → VK → Prop := fun x lo hi H Q =>
  rSlL K x lo hi H Q ∨ rSlT0 K x lo hi H Q ∨ rSlT K x lo hi H Q ∨ rSlS x lo hi H Q
theorem sl_any : SlR X (rSl X.K) := SlR.or sl_list (SlR.or sl_tup0 (SlR.or sl_tup sl_str))

/-! ### len, list, tuple, isinstance, ==, in -/
def rLen (K : PySem.W.Frag) : List V → Hp → VK → Prop := fun xs H Q =>
  (∃ p ys, xs = [.ref p] ∧ (SqL K H p ys ∨ SqT K H p ys) ∧ Q (.int ys.length) H) ∨ (∃ z, xs = [.str z] ∧ z.length ≤ sizeLine ∧ Q (.int z.length) H)
theorem call_lenA : CallR X (.builtin "len") (rLen X.K) := CallR.or call_len_seq call_len_str
def rList (K : PySem.W.Frag) : List V → Hp → VK → Prop := fun xs H Q => ∃ p ys, xs = [.ref p] ∧ (SqL K H p ys ∨ SqT K H p ys) ∧ ∀ l, H l = none → Q (.ref l) (upd H l (.lst ys))
theorem call_listA : CallR X (.type "list") (rList X.K) := call_list_of
def rTuple (K : PySem.W.Frag) : List V → Hp → VK → Prop := fun xs H Q => ∃ p ys, xs = [.ref p] ∧
  ((SqL K H p ys ∧ ∀ l, H l = none → Q (.ref l) (upd H l (.tup ys))) ∨ (SqT K H p ys ∧ Q (.ref p) H))
theorem call_tupleA : CallR X (.type "tuple") (rTuple X.K) := call_tuple_of
/-- == of scalars, or of data -/
def rEqDat (K : PySem.W.Frag) : R2 := fun x y H Q => ∃ Z d e, One H ∧ Dat K Z H d x ∧ Dat K Z H e y ∧ SeqAt.shaped d = true ∧ SeqAt.shaped e = true ∧ Q (.bl (PyData.eqv d e)) H
theorem op_eqDatU (hu : X.A.units + 64 < cLine) : OpR X (compareOp .Eq) (rEqDat X.K) := by
  intro pins s σ H x y v u Q I rx ry h
  obtain ⟨Z, d, e, o1, hd, he, sd, se, q⟩ := h
  obtain ⟨as, r1, _⟩ := Dat.reads I o1 d x v hd rx
  obtain ⟨bs, r2, _⟩ := Dat.reads I o1 e y u he ry
  exact SeqAt.compareEq_shaped r1 r2 sd se hu ⟨.bl _, H, I, rfl, q⟩
def rNeDat (K : PySem.W.Frag) : R2 := fun x y H Q => ∃ Z d e, One H ∧ Dat K Z H d x ∧ Dat K Z H e y ∧ SeqAt.shaped d = true ∧ SeqAt.shaped e = true ∧ Q (.bl (!PyData.eqv d e)) H
theorem op_neDatU (hu : X.A.units + 64 < cLine) : OpR X (compareOp .NotEq) (rNeDat X.K) := by
  intro pins s σ H x y v u Q I rx ry h
  obtain ⟨Z, d, e, o1, hd, he, sd, se, q⟩ := h
  obtain ⟨as, r1, _⟩ := Dat.reads I o1 d x v hd rx
  obtain ⟨bs, r2, _⟩ := Dat.reads I o1 e y u he ry
  exact SeqAt.compareNe_shaped r1 r2 sd se hu ⟨.bl _, H, I, rfl, q⟩
def rEqA (K : PySem.W.Frag) : R2 := fun x y H Q => rEq x y H Q ∨ rEqDat K x y H Q
def rNeA (K : PySem.W.Frag) : R2 := fun x y H Q => rNe x y H Q ∨ rNeDat K x y H Q
theorem op_eqAU (hu : X.A.units + 64 < cLine) : OpR X (compareOp .Eq) (rEqA X.K) := OpR.or op_eq (op_eqDatU hu)
theorem op_eqA {k : Nat} (hr : Room k X.A) : OpR X (compareOp .Eq) (rEqA X.K) := op_eqAU hr.units
theorem op_neAU (hu : X.A.units + 64 < cLine) : OpR X (compareOp .NotEq) (rNeA X.K) := OpR.or op_ne (op_neDatU hu)
theorem op_neA {k : Nat} (hr : Room k X.A) : OpR X (compareOp .NotEq) (rNeA X.K) := op_neAU hr.units
/-- one sign in a text; a text in a text; a flat thing in a list or tuple -/
def rInC : R2 := fun x y H Q => ∃ (c : Nat) (z : Str), x = .str ⟨#[c]⟩ ∧ y = .str z ∧ Q (.bl (decide (c ∈ z.cps.toList))) H
def rNotInC : R2 := fun x y H Q => ∃ (c : Nat) (z : Str), x = .str ⟨#[c]⟩ ∧ y = .str z ∧ Q (.bl (!decide (c ∈ z.cps.toList))) H
def rInA (K : PySem.W.Frag) : R2 := fun x y H Q => rInC x y H Q ∨ rIn K false x y H Q
def rNotInA (K : PySem.W.Frag) : R2 := fun x y H Q => rNotInC x y H Q ∨ rIn K true x y H Q
end

/-! ### what they ask, of data -/
section
variable {K : PySem.W.Frag} {p : Addr} {Z : List Addr} {H H' : Hp} {Q : VK} {x y : V} {d e : PyData} {ds es : List PyData}
/-- the places of Z are taken, p is one of them, the interpreter's table is known -/
structure Wd (p : Addr) (Z : List Addr) (H : Hp) : Prop where
  one : One H
  occ : ∀ b ∈ Z, H b ≠ none
  mem : p ∈ Z
theorem Wd.ne {n : Addr} (h : Wd p Z H) (hn : H n = none) : n ∉ Z := fun z => h.occ n z hn
theorem Wd.up (h : Wd p Z H) (r : R p H H') : Wd p Z H' := by
  refine ⟨r.one h.one, fun b hb => ?_, h.mem⟩
  by_cases z : b = p
  · subst z
    exact r.occ (h.occ _ hb)
  · cases e : H b with
    | none => exact absurd e (h.occ b hb)
    | some o =>
      rw [r.keep b o z e]
      exact fun w => nomatch w
theorem Dat.to {v : V} (h : Dat K Z H d v) (w : Wd p Z H) (r : R p H H') : Dat K Z H' d v := Dat.up r w.mem d v h
theorem DatL.to {v : List V} (h : DatL K Z H ds v) (w : Wd p Z H) (r : R p H H') : DatL K Z H' ds v := DatL.up r w.mem ds v h
theorem s_add_int {i j : Int} (q : Q (.int (i + j)) H) : rAdd K (.int i) (.int j) H Q := .inl ⟨i, j, rfl, rfl, q⟩
/-- a type's name -/
def tyD : PyData → String
  | .none => "NoneType" | .bool _ => "bool" | .int _ => "int" | .str _ => "str" | .list _ => "list" | .tuple _ => "tuple" | .dict _ => "dict"
theorem Dat.ty (h : Dat K Z H d x) : TyX K H x (.type (tyD d)) := by
  cases d with
  | none => simp only [Dat] at h; subst h; exact .base .non
  | bool b => simp only [Dat] at h; subst h; exact .base (.bl b)
  | int b => simp only [Dat] at h; subst h; exact .base (.int b)
  | str b => simp only [Dat] at h; subst h; exact .base (.str b)
  | list ds =>
    obtain ⟨a, xs, rfl, _, h, _⟩ := h.lst
    rcases h with h | ⟨o, h⟩
    · exact .base (.lst h)
    · exact .base (.frz h)
  | tuple ds =>
    obtain ⟨a, xs, rfl, _, h, _⟩ := h.tup
    rcases h with (h | ⟨o, h⟩) | ⟨o, _, _, h, c, _⟩
    · exact .base (.tup h)
    · exact .fTuple h
    · exact .kTuple h c
  | dict ds =>
    obtain ⟨a, xs, rfl, _, h, _⟩ := h.dct
    exact .base (.dK h)
/-- isinstance of data by a built-in type's name -/
def isD (d : PyData) (T : String) : Bool := tyD d == T || (T == "int" && tyD d == "bool")
theorem kit_table : ∀ a ∈ ["NoneType", "bool", "int", "str", "list", "tuple", "dict"], ∀ T ∈ ["int", "bool", "str", "list", "tuple", "dict"],
    kitB a T = some (a == T || (T == "int" && a == "bool")) := by decide +kernel
theorem kit_isD (d : PyData) {T : String} (hT : T = "int" ∨ T = "bool" ∨ T = "str" ∨ T = "list" ∨ T = "tuple" ∨ T = "dict") : kitB (tyD d) T = some (isD d T) := by
  refine kit_table _ ?_ T ?_
  · cases d <;> simp [tyD]
  · rcases hT with rfl | rfl | rfl | rfl | rfl | rfl <;> simp
theorem s_isi {T : String} (hx : Dat K Z H d x) (hT : T = "int" ∨ T = "bool" ∨ T = "str" ∨ T = "list" ∨ T = "tuple" ∨ T = "dict") (q : Q (.bl (isD d T)) H) : rIsi K [x, .ty T] H Q :=
  ⟨x, .ty T, _, _, isD d T, rfl, .ty T, hx.ty, kit_ty (kit_isD d hT), q⟩
theorem s_eq_int {i j : Int} (q : Q (.bl (decide (i = j))) H) : rEqA K (.int i) (.int j) H Q := .inl ⟨rfl, by
  have e : decide (V.int i = V.int j) = decide (i = j) := by simp
  rw [e]; exact q⟩
theorem s_ne_int {i j : Int} (q : Q (.bl (!decide (i = j))) H) : rNeA K (.int i) (.int j) H Q := .inl ⟨rfl, by
  have e : decide (V.int i = V.int j) = decide (i = j) := by simp
  rw [e]; exact q⟩
theorem s_eq_str {i j : Str} (q : Q (.bl (decide (i = j))) H) : rEqA K (.str i) (.str j) H Q := .inl ⟨rfl, by
  have e : decide (V.str i = V.str j) = decide (i = j) := by simp
  rw [e]; exact q⟩
theorem s_ne_str {i j : Str} (q : Q (.bl (!decide (i = j))) H) : rNeA K (.str i) (.str j) H Q := .inl ⟨rfl, by
  have e : decide (V.str i = V.str j) = decide (i = j) := by simp
  rw [e]; exact q⟩
theorem s_in_c {c : Nat} {z : Str} (q : Q (.bl (decide (c ∈ z.cps.toList))) H) : rInA K (.str ⟨#[c]⟩) (.str z) H Q := .inl ⟨c, z, rfl, rfl, q⟩
theorem s_notIn_c {c : Nat} {z : Str} (q : Q (.bl (!decide (c ∈ z.cps.toList))) H) : rNotInA K (.str ⟨#[c]⟩) (.str z) H Q := .inl ⟨c, z, rfl, rfl, q⟩
end
end PC

set_option Elab.async false
set_option linter.all false
set_option maxRecDepth 100000
set_option maxHeartbeats 2000000
/-! PcD: readings step by step; comprehensions over data; the store of draws. -/
namespace PC
open PySem PySem.Spec PyProof.Rows L2

/-- a comprehension behind its iterator's making -/
def LcG (J : It) (g : TG) (tt : TT) (te : TE) (vs : List Nat) (σ : L2.St) (H1 : Hp) (Q : VK) : Prop :=
  ∀ D, H1 D = none → ∃ W : Nat → Nat → Hp → Prop, (∃ m, W 0 m (upd H1 D (.lst []))) ∧ ∀ i m H, W i m H →
        (J.stop i H ∧ Q (.ref D) H) ∨ (J.go i H ∧ ∃ Nx : Hp → Prop, (∀ H', Nx H' → ∃ m', m' < m ∧ W (i + 1) m' H') ∧
          ∀ x H', J.yld i H x H' → g x (wipe σ vs) H' fun σ2 H2 => wipe σ2 vs = wipe σ vs ∧ tt σ2 H2 fun b H3 =>
            if b = true then te σ2 H3 fun y H4 => ∃ acc, H4 D = some (.lst acc) ∧ acc.length < sizeLine ∧ Nx (upd H4 D (.lst (acc ++ [y]))) else Nx H3)
/-- a for behind its iterator's making -/
def ForG (J : It) (g : TG) (tb : TS) (D : Ends) (σ : L2.St) (H1 : Hp) : Prop := ∃ W : Nat → Nat → L2.St → Hp → Prop, (∃ m, W 0 m σ H1) ∧ ∀ i m σ H, W i m σ H →
    (J.stop i H ∧ D.nx σ H) ∨ (J.go i H ∧ ∃ N : L2.St → Hp → Prop, (∀ σ' H', N σ' H' → ∃ m', m' < m ∧ W (i + 1) m' σ' H') ∧
      ∀ x H', J.yld i H x H' → g x σ H' fun σ2 H2 => tb { D with nx := N, ct := N, bk := D.nx } σ2 H2)
/-- a new list, a new tuple of these values -/
def NewL (xs : List V) (H : Hp) (Q : VK) : Prop := xs.length ≤ sizeLine ∧ ∀ p, H p = none → Q (.ref p) (upd H p (.lst xs))
def NewT (xs : List V) (H : Hp) (Q : VK) : Prop := xs.length ≤ sizeLine ∧ ∀ p, H p = none → Q (.ref p) (upd H p (.tup xs))
section
variable {σ : L2.St} {H : Hp} {Q : VK} {D : Ends} {v : V} {te ta tb tc : TE} {t u : TS} {tt t1 t2 : TT} {tr : TA} {QA : List V → Hp → Prop} {QT : Bool → Hp → Prop}
/-! ### expressions -/
theorem s_var {i : Nat} (h : σ[i]? = some (some v)) (q : Q v H) : tVar i σ H Q := ⟨v, h, q⟩
theorem s_c (q : Q v H) : tC v σ H Q := q
theorem s_op {r : R2} (q : ta σ H fun x H1 => tb σ H1 fun y H2 => r x y H2 Q) : tOp r ta tb σ H Q := q
theorem s_un {r : V → Hp → VK → Prop} (q : ta σ H fun x H1 => r x H1 Q) : tUn r ta σ H Q := q
theorem s_rI0 {g : Int → Int → V} {i j : Int} (q : Q (g i j) H) : rI0 g (.int i) (.int j) H Q := ⟨i, j, rfl, rfl, q⟩
theorem s_rI {C : Int → Int → Prop} {g : Int → Int → V} {i j : Int} (c : C i j) (q : Q (g i j) H) : rI C g (.int i) (.int j) H Q := ⟨i, j, rfl, rfl, c, q⟩
theorem s_rU {g : Int → V} {i : Int} (q : Q (g i) H) : rU g (.int i) H Q := ⟨i, rfl, q⟩
theorem s_nil (q : QA [] H) : tNil σ H QA := q
theorem s_cons (q : te σ H fun x H1 => tr σ H1 fun xs H2 => QA (x :: xs) H2) : tCons te tr σ H QA := q
theorem s_cb {r : List V → Hp → VK → Prop} (q : tr σ H fun vs H1 => r vs H1 Q) : tCB r tr σ H Q := q
theorem s_ck {r : List V → List V → Hp → VK → Prop} {tk : TA} (q : tr σ H fun vs H1 => tk σ H1 fun zs H2 => r vs zs H2 Q) : tCK r tr tk σ H Q := q
theorem s_if (q : tt σ H fun c H1 => if c = true then ta σ H1 Q else tb σ H1 Q) : tIf tt ta tb σ H Q := q
theorem s_andV (q : ta σ H fun x H1 => ∃ c, x = .bl c ∧ if c = true then tb σ H1 Q else Q (.bl false) H1) : tAndV ta tb σ H Q := q
theorem s_orV (q : ta σ H fun x H1 => ∃ c, x = .bl c ∧ if c = true then Q (.bl true) H1 else tb σ H1 Q) : tOrV ta tb σ H Q := q
theorem s_notV (q : ta σ H fun x H1 => ∃ c, x = .bl c ∧ Q (.bl (!c)) H1) : tNotV ta σ H Q := q
theorem s_chain {r r' : R2} (q : ta σ H fun x H1 => tb σ H1 fun y H2 => r x y H2 fun z H3 => ∃ k, z = .bl k ∧
    (if k = true then tc σ H3 fun w' H4 => r' y w' H4 Q else Q (.bl false) H3)) : tChain r r' ta tb tc σ H Q := q
theorem s_lst (q : tr σ H fun xs H1 => NewL xs H1 Q) : tLst tr σ H Q := q
theorem s_tup (q : tr σ H fun xs H1 => NewT xs H1 Q) : tTup tr σ H Q := q
theorem s_slice {r : V → Option Int → Option Int → Hp → VK → Prop} {tl th : TO} (q : te σ H fun x H1 => tl σ H1 fun l H2 => th σ H2 fun u H3 => r x l u H3 Q) : tSl r te tl th σ H Q := q
theorem s_part {Qo : Option Int → Hp → Prop} (q : te σ H fun x H1 => ∃ i, x = .int i ∧ Qo (some i) H1) : tPart te σ H Qo := q
theorem s_noPart {Qo : Option Int → Hp → Prop} (q : Qo none H) : tNoPart σ H Qo := q
/-! ### tests -/
theorem s_test (q : te σ H fun x H' => ∃ k, x = .bl k ∧ QT k H') : tTest te σ H QT := q
theorem s_tB (q : te σ H fun x H' => ∃ k, x = .bl k ∧ QT k H') : tB te σ H QT := q
theorem s_not (q : tt σ H fun c H1 => QT (!c) H1) : tNot tt σ H QT := q
theorem s_and (q : t1 σ H fun c H1 => if c = true then t2 σ H1 QT else QT false H1) : tAnd t1 t2 σ H QT := q
theorem s_or (q : t1 σ H fun c H1 => if c = true then QT true H1 else t2 σ H1 QT) : tOr t1 t2 σ H QT := q
/-! ### statements -/
theorem s_seq (q : t { D with nx := u D } σ H) : tSeq t u D σ H := q
theorem s_next (q : D.nx σ H) : tNext D σ H := q
theorem s_ret (q : te σ H D.rt) : tRet te D σ H := q
theorem s_retN (q : D.rt .non H) : tRetN D σ H := q
theorem s_drop (q : te σ H fun _ H1 => D.nx σ H1) : tDrop te D σ H := q
theorem s_ifS (q : tt σ H fun b H1 => if b = true then t D σ H1 else u D σ H1) : tIfS tt t u D σ H := q
theorem s_asg {g : TG} (q : te σ H fun x H1 => g x σ H1 D.nx) : tAsg te g D σ H := q
theorem s_par {i j : Nat} (q : tr σ H fun vs H1 => ∃ v w, vs = [v, w] ∧ D.nx ((σ.set i (some v)).set j (some w)) H1) : tPar i j tr D σ H := q
theorem s_gname {i : Nat} {N : L2.St → Hp → Prop} (q : N (σ.set i (some v)) H) : gName i v σ H N := q
end

/-! ### comprehensions -/
section
variable {J : It} {n : Nat} {G : Hp → Prop} {Y : Nat → Hp → V → Hp → Prop} {K : PySem.W.Frag} {p : Addr} {Z : List Addr}
theorem Wd.more {D : Addr} {H : Hp} (w : Wd p Z H) (hD : H D ≠ none) : Wd p (D :: Z) H :=
  ⟨w.one, fun b hb => (List.mem_cons.mp hb).elim (fun z => z ▸ hD) (w.occ b), List.mem_cons_of_mem _ w.mem⟩
theorem R.wd {D : Addr} {H H' : Hp} (r : R p H H') (hD : H D ≠ none) (hp : D ≠ p) : H' D = H D := by
  cases e : H D with
  | none => exact absurd e hD
  | some o => exact r.keep D o hp e
end

/-! ### built-ins by name -/
theorem bt_max : bootBuiltins "max" = some (.builtin "max") := by decide +kernel
theorem bt_min : bootBuiltins "min" = some (.builtin "min") := by decide +kernel
theorem bt_abs : bootBuiltins "abs" = some (.builtin "abs") := by decide +kernel
theorem bt_divmod : bootBuiltins "divmod" = some (.builtin "divmod") := by decide +kernel
theorem bt_len : bootBuiltins "len" = some (.builtin "len") := by decide +kernel
theorem bt_isinstance : bootBuiltins "isinstance" = some (.builtin "isinstance") := by decide +kernel
theorem bt_repr : bootBuiltins "repr" = some (.builtin "repr") := by decide +kernel
theorem bt_sum : bootBuiltins "sum" = some (.builtin "sum") := by decide +kernel
theorem bt_all : bootBuiltins "all" = some (.builtin "all") := by decide +kernel
theorem bt_sorted : bootBuiltins "sorted" = some (.builtin "sorted") := by decide +kernel
theorem bt_int : bootBuiltins "int" = some (.type "int") := by decide +kernel
theorem bt_bool : bootBuiltins "bool" = some (.type "bool") := by decide +kernel
theorem bt_list : bootBuiltins "list" = some (.type "list") := by decide +kernel
theorem bt_tuple : bootBuiltins "tuple" = some (.type "tuple") := by decide +kernel
/-! ### choices -/
theorem ite_b {b : Bool} {A B : Prop} (h1 : b = true → A) (h0 : b = false → B) : if b = true then A else B := by
  cases b with
  | true => exact iteT (h1 rfl)
  | false => exact iteF (h0 rfl)
theorem ite_d {c A B : Prop} [Decidable c] (h1 : c → A) (h0 : ¬ c → B) : if decide c = true then A else B :=
  ite_b (fun h => h1 (of_decide_eq_true h)) (fun h => h0 (of_decide_eq_false h))
section
variable {X : Cx}
theorem ix_any : IxR X (rIx X.K) := ix_seq
theorem op_modA : OpR X (binaryOp .Mod) (rI (fun _ j => 0 < j) fun i j => .int (i % j)) := op_mod
theorem op_fdivA : OpR X (binaryOp .FloorDiv) (rI CDivW fun i j => .int (i / j)) := op_fdivW
end
/-! ### targets, the pot -/
section
variable {K : PySem.W.Frag} {σ : L2.St} {H : Hp} {N : L2.St → Hp → Prop} {Q : VK} {p : Addr} {x y v : V} {a b : Int} {Z : List Addr}
theorem s_gcons {t : TG} {u : TGs} {r : List V} (q : t v σ H fun σ' H' => u r σ' H' N) : gCons t u (v :: r) σ H N := ⟨v, r, rfl, q⟩
theorem s_gnil (q : N σ H) : gNil [] σ H N := ⟨rfl, q⟩
theorem s_gsub {to ti : TE} {t : TSet} (q : to σ H fun o H1 => ti σ H1 fun i H2 => t o i v H2 fun H3 => N σ H3) : gSub to ti t v σ H N := q
theorem s_gtup {n : Nat} {t : TGs} {xs : List V} (h : SqT K H p xs) (hl : xs.length = n) (q : t xs σ H N) : gTup K n t (.ref p) σ H N := ⟨p, xs, rfl, h, hl, q⟩
theorem s_pot0 (e : H p = some (.lst [x, y])) (q : Q x H) : rIx K (.ref p) (.int 0) H Q := .inl ⟨p, [x, y], 0, x, rfl, rfl, .inl (.inl e), atI_nat (j := 0) rfl, q⟩
theorem s_pot1 (e : H p = some (.lst [x, y])) (q : Q y H) : rIx K (.ref p) (.int 1) H Q := .inl ⟨p, [x, y], 1, y, rfl, rfl, .inl (.inl e), atI_nat (j := 1) rfl, q⟩
theorem s_pset0 {N : Hp → Prop} (e : H p = some (.lst [x, y])) (q : N (upd H p (.lst [v, y]))) : rSetL (.ref p) (.int 0) v H N := ⟨p, [x, y], 0, 0, rfl, rfl, e, rfl, q⟩
theorem s_pset1 {N : Hp → Prop} (e : H p = some (.lst [x, y])) (q : N (upd H p (.lst [x, v]))) : rSetL (.ref p) (.int 1) v H N := ⟨p, [x, y], 1, 1, rfl, rfl, e, rfl, q⟩
/-- the script at an index in its bounds -/
theorem s_script {ns : List Int} {i : Nat} (h : SqL K H p (ns.map V.int)) (hi : i < ns.length) (q : ∀ z, ns[i]? = some z → Q (.int z) H) : rIx K (.ref p) (.int i) H Q := by
  refine .inl ⟨p, _, i, .int ns[i], rfl, rfl, h, atI_nat (j := i) (by rw [List.getElem?_map, List.getElem?_eq_getElem hi]; rfl), q _ (List.getElem?_eq_getElem hi)⟩
end
/-! ### keywords -/
section
variable {K : PySem.W.Frag} {α β : Type}
def pick (perm : List Nat) (xs : List α) : List α := perm.filterMap (xs[·]?)
def kwg (a b : Nat) (perm : List Nat) (us ws : List α) : List α := if us.length = a ∧ ws.length = b then pick perm (us ++ ws) else []
theorem pick_vals {xs : List V} {us : List Value} (r : Vals xs us) : ∀ perm : List Nat, Vals (pick perm xs) (pick perm us)
  | [] => .nil
  | i :: perm => by
    have ih := pick_vals r perm
    unfold pick at ih ⊢
    rw [List.filterMap_cons, List.filterMap_cons]
    cases e : xs[i]? with
    | none => rw [r.none_of e]; exact ih
    | some x =>
      obtain ⟨u, hu, ru⟩ := r.get e
      rw [hu]
      exact .cons ru ih
theorem kb_of {x qual : Str} {st : Stmt} {f : Addr} {fd : FuncData} {ps ks : List Str} {a b : Nat} {perm : List Nat} (F : Fun K x qual st f fd) (h0 : ps ≠ [])
    (h : ∀ (kV doc pm : Value) (an : Option Addr) (cdv ct : Value) (us ws : List Value), us.length = a → ws.length = b →
      bindArgs (PySem.W.fnOf x qual (defArgs st) (defBody st) (defScope st) .none kV doc pm an cdv ct) ⟨us, ks.zip ws⟩ = pure (ps.zip (pick perm (us ++ ws)))) :
    KBinds K fd ps ks (kwg a b perm) (kwg a b perm) := by
  obtain ⟨oc, od, kV, doc, pm, an, cdv, ct, osl, rfl, lk, hcd⟩ := F.ex
  refine ⟨fun s us ws _ hl => ?_, fun {vs us zs ws} r z => ?_⟩
  · by_cases c : us.length = a ∧ ws.length = b
    · unfold kwg
      rw [if_pos c]
      exact .of_eq (h kV doc pm an cdv ct us ws c.1 c.2)
    · unfold kwg at hl
      rw [if_neg c] at hl
      exact absurd (List.length_eq_zero_iff.mp hl.symm) h0
  · unfold kwg
    by_cases c : us.length = a ∧ ws.length = b
    · rw [if_pos c, if_pos ⟨by rw [r.length]; exact c.1, by rw [z.length]; exact c.2⟩]
      exact pick_vals (r.append z) perm
    · rw [if_neg c, if_neg (fun q => c ⟨by rw [← r.length]; exact q.1, by rw [← z.length]; exact q.2⟩)]
      exact .nil
end

theorem cmul_r {i j : Int} (h : -18446744073709551616 < j) (h' : j < 18446744073709551616) : CMul i j := .inr ⟨h, h'⟩
theorem cmul_l {i j : Int} (h : -18446744073709551616 < i) (h' : i < 18446744073709551616) : CMul i j := .inl ⟨h, h'⟩
theorem cdw {i j : Int} (h : 0 < j) (h' : j < 18446744073709551616) : CDivW i j := wide_div h (b := 64) (by omega) (by decide) (by decide)
theorem cpow {i j : Int} (h : 0 ≤ j) (h' : j ≤ 1000000) (h'' : i.natAbs < 18446744073709551616) : CPow i j := ⟨h, h', h''⟩
section
variable {K : PySem.W.Frag} {H : Hp} {Q : VK}
end

/-! ### comprehensions of one form -/
section
variable {J : It} {n : Nat} {G : Hp → Prop} {Y : Nat → Hp → V → Hp → Prop} {K : PySem.W.Frag} {p : Addr} {Z : List Addr} {gi : Nat} {te : TE} {vs : List Nat} {σ : L2.St} {H1 : Hp} {Q : VK}
theorem s_yes {σ : L2.St} {H : Hp} {QT : Bool → Hp → Prop} (q : QT true H) : tYes σ H QT := q
end
section
variable {K : PySem.W.Frag} {p : Addr} {Z : List Addr} {H : Hp} {Q : VK} {x : V} {d : PyData}
theorem Dat.str {z : Str} (h : Dat K Z H (.str z) x) : x = .str z := by simpa only [Dat] using h
theorem Dat.int {z : Int} (h : Dat K Z H (.int z) x) : x = .int z := by simpa only [Dat] using h
theorem Dat.bool {z : Bool} (h : Dat K Z H (.bool z) x) : x = .bl z := by simpa only [Dat] using h
end
theorem sl_of {n : Nat} (h : n ≤ 50000) : n ≤ sizeLine := by rw [sizeLine_eq]; omega
theorem sl_lt {n : Nat} (h : n ≤ 50000) : n < sizeLine := by rw [sizeLine_eq]; omega

/-! ### the rules with the written part named (within a comprehension the context is another, the written part is not) -/
section
variable {X : Cx} {K : PySem.W.Frag} {k : Nat}
theorem kx_add (h : X.K = K) : OpR X (binaryOp .Add) (rAdd K) := by subst h; exact op_addA
theorem kx_ix (h : X.K = K) : IxR X (rIx K) := by subst h; exact ix_any
theorem kx_sl (h : X.K = K) : SlR X (rSl K) := by subst h; exact sl_any
theorem kx_len (h : X.K = K) : CallR X (.builtin "len") (rLen K) := by subst h; exact call_lenA
theorem kx_list (h : X.K = K) : CallR X (.type "list") (rList K) := by subst h; exact call_listA
theorem kx_tuple (h : X.K = K) : CallR X (.type "tuple") (rTuple K) := by subst h; exact call_tupleA
theorem kx_eq (h : X.K = K) (hr : Room k X.A) : OpR X (compareOp .Eq) (rEqA K) := by subst h; exact op_eqA hr
theorem kx_ne (h : X.K = K) (hr : Room k X.A) : OpR X (compareOp .NotEq) (rNeA K) := by subst h; exact op_neA hr
theorem kx_repr (h : X.K = K) (hg : GOk X) (hr : Room k X.A) : CallR X (.builtin "repr") (rRepr K) := by subst h; exact call_repr hg hr
theorem kx_isi (h : X.K = K) : CallR X (.builtin "isinstance") (rIsi K) := by subst h; exact call_isi
theorem kx_isiT (h : X.K = K) : CallR X (.builtin "isinstance") (rIsiT K) := by subst h; exact call_isiT
theorem kx_all (h : X.K = K) (hc : X.calm = true) : CallR X (.builtin "all") (rAll K) := by subst h; exact cr_all hc
theorem kx_sum (h : X.K = K) (hc : X.calm = true) : CallR X (.builtin "sum") (rSum K) := by subst h; exact cr_sum hc
end

theorem ite_nf {A B : Prop} (h : A) : if (!false) = true then A else B := iteT h
theorem ite_nt {A B : Prop} (h : B) : if (!true) = true then A else B := iteF h
section
variable {σ : L2.St} {H : Hp} {Q : VK} {D : Ends} {g : TG} {tt : TT} {te : TE} {ta : TA} {vs : List Nat} {K : PySem.W.Frag} {RI : It → Hp → Prop} {tb : TS} {wi : TI}
theorem s_tlc (q : wi σ H fun J H1 => LcG J g tt te vs σ H1 Q) : tLc wi g tt te vs σ H Q := q
theorem s_iStr (q : te σ H fun v H1 => ∃ x, v = .str x ∧ RI (Its x) H1) : iStr te σ H RI := q
theorem s_iList (q : te σ H fun x H1 => ∃ a, x = .ref a ∧ (∃ xs, SqL K H1 a xs) ∧ RI (Itl K a) H1) : iList K te σ H RI := q
theorem s_iTup (q : te σ H fun x H1 => ∃ a, x = .ref a ∧ (∃ xs, SqT K H1 a xs) ∧ RI (Itt K a) H1) : iTup K te σ H RI := q
theorem s_iRng1 (q : ta σ H fun vs H1 => ∃ j : Int, vs = [.int j] ∧ -(2 ^ 62) ≤ j ∧ j < 2 ^ 62 ∧ RI (Itr 0 j.toNat) H1) : iRng1 ta σ H RI := q
theorem s_iRng2 (q : ta σ H fun vs H1 => ∃ i j : Int, vs = [.int i, .int j] ∧ (-(2 ^ 62) ≤ i ∧ i < 2 ^ 62 ∧ -(2 ^ 62) ≤ j ∧ j < 2 ^ 62) ∧ RI (Itr i (j - i).toNat) H1) : iRng2 ta σ H RI := q
theorem s_for (q : wi σ H fun J H1 => ForG J g tb D σ H1) : tFor wi g tb D σ H := q
section
variable {p : Addr} {Z : List Addr} {ds : List PyData} {xs : List V}
end
end

/-! ### picks, dicts, joined texts -/
section
variable {K : PySem.W.Frag} {p : Addr} {Z : List Addr} {H : Hp} {Q : VK} {x : V} {d : PyData} {ds : List PyData} {σ : L2.St}
theorem s_m1 {r : V → List V → Hp → VK → Prop} {to te : TE} (q : to σ H fun x H1 => (∃ a, x = .str a) ∧ te σ H1 fun y H2 => r x [y] H2 Q) : tM1 r to te σ H Q := q
end
/-! ### texts -/
theorem cps_app (a b : Str) : (a ++ b).cps.toList = a.cps.toList ++ b.cps.toList := by
  show (a.cps ++ b.cps).toList = _
  simp
theorem ok_iff {x : Str} : PyData.strOk x = true ↔ ∀ c ∈ x.cps.toList, c < 1114112 := by
  unfold PyData.strOk
  rw [← Array.all_toList, List.all_eq_true]
  constructor
  · intro h c hc; exact of_decide_eq_true (h c hc)
  · intro h c hc; exact decide_eq_true (h c hc)
theorem ok_app {a b : Str} (h : PyData.strOk a = true) (g : PyData.strOk b = true) : PyData.strOk (a ++ b) = true := by
  rw [ok_iff] at *
  intro c hc
  rw [cps_app] at hc
  exact (List.mem_append.mp hc).elim (h c) (g c)
/-! ### what repr writes is made of code points -/
theorem char_lt (c : Char) : c.toNat < 1114112 := by
  have h := c.valid
  show c.val.toNat < 1114112
  rcases h with h | ⟨_, h⟩
  · have : c.val.toNat < 0xd800 := h
    omega
  · exact h
theorem ok_ofString (s : String) : PyData.strOk (Str.ofString s) = true := by
  rw [ok_iff, signs_ofString]
  intro c hc
  obtain ⟨ch, _, rfl⟩ := List.mem_map.mp hc
  exact char_lt ch
theorem reprChar_lt {q c x : Nat} (hq : c < 1114112) (h : x ∈ Builtin.Str.reprChar q c) : x < 1114112 := by
  have hx : ∀ w : Nat, x ∈ List.replicate (w - ((Nat.toDigits 16 c).map Char.toNat).length) 48 ++ (Nat.toDigits 16 c).map Char.toNat → x < 1114112 := by
    intro w h
    rcases List.mem_append.mp h with h | h
    · rw [List.eq_of_mem_replicate h]; decide
    · obtain ⟨ch, _, rfl⟩ := List.mem_map.mp h
      exact char_lt ch
  unfold Builtin.Str.reprChar at h
  simp only at h
  repeat' split at h
  all_goals first
    | (simp only [List.mem_cons, List.not_mem_nil, or_false] at h; omega)
    | (rcases List.mem_append.mp h with h | h
       · simp only [List.mem_cons, List.not_mem_nil, or_false] at h; omega
       · exact hx _ h)
theorem mem_fold (f : Nat → List Nat) (x : Nat) : ∀ (l : List Nat) (acc : Array Nat), x ∈ (l.foldl (fun out c => out ++ (f c).toArray) acc).toList → x ∈ acc.toList ∨ ∃ c ∈ l, x ∈ f c
  | [], acc, h => .inl h
  | c :: l, acc, h => by
    rcases mem_fold f x l _ h with h | ⟨d, hd, h⟩
    · have h' : x ∈ acc.toList ++ f c := by simpa using h
      rcases List.mem_append.mp h' with h | h
      · exact .inl h
      · exact .inr ⟨c, by simp, h⟩
    · exact .inr ⟨d, List.mem_cons_of_mem _ hd, h⟩
theorem quote_lt (x : Str) : reprQuote x < 1114112 := by
  unfold reprQuote
  split <;> decide
theorem ok_reprText {x : Str} (h : PyData.strOk x = true) : PyData.strOk (reprText x) = true := by
  rw [ok_iff] at *
  intro c hc
  unfold reprText at hc
  rw [Array.toList_push] at hc
  rcases List.mem_append.mp hc with hc | hc
  · rw [← Array.foldl_toList] at hc
    rcases mem_fold (Builtin.Str.reprChar (reprQuote x)) c _ _ hc with hc | ⟨d, hd, hc⟩
    · have : c = reprQuote x := by simpa using hc
      rw [this]; exact quote_lt x
    · exact reprChar_lt (h d hd) hc
  · rw [List.mem_singleton.mp hc]; exact quote_lt x
theorem ok_sjoin (sep : Str) (hs : PyData.strOk sep = true) (ts : List Str) (h : ∀ t ∈ ts, PyData.strOk t = true) : PyData.strOk (Str.join sep ts) = true := by
  rw [ok_iff]
  intro c hc
  rcases (mem_join sep c ts).mp hc with ⟨t, ht, hc⟩ | ⟨_, hc⟩
  · exact ok_iff.mp (h t ht) c hc
  · exact ok_iff.mp hs c hc
theorem ok_textFrom : ∀ (ts : List Str) (k : Nat) (acc : Str), PyData.strOk acc = true → (∀ t ∈ ts, PyData.strOk t = true) → PyData.strOk (textFrom k acc ts) = true
  | [], k, acc, h, _ => h
  | t :: r, k, acc, h, g => by
    show PyData.strOk (textFrom (k + 1) _ r) = true
    exact ok_textFrom r (k + 1) _ (ok_app (ok_app h (ok_ofString _)) (g t (by simp))) fun u hu => g u (List.mem_cons_of_mem _ hu)
mutual
theorem ok_shown : ∀ d : PyData, lay d = true → PyData.strOk d.shown = true
  | .none, _ => ok_ofString _
  | .bool b, _ => by cases b <;> exact ok_ofString _
  | .int i, _ => ok_ofString _
  | .str x, h => by
    simp only [PyData.shown]
    exact ok_reprText (by simpa only [lay] using h)
  | .list xs, h => by
    simp only [PyData.shown]
    exact ok_app (ok_textFrom _ _ _ (ok_ofString _) (ok_shownAll xs (by simpa only [lay] using h))) (ok_ofString _)
  | .tuple xs, h => by
    simp only [PyData.shown]
    exact ok_app (ok_app (ok_ofString _) (ok_sjoin _ (ok_ofString _) _ (ok_shownAll xs (by simpa only [lay] using h)))) (ok_ofString _)
  | .dict kvs, h => by
    simp only [PyData.shown]
    exact ok_app (ok_app (ok_ofString _) (ok_sjoin _ (ok_ofString _) _ (ok_shownKv kvs (by simpa only [lay] using h)))) (ok_ofString _)
theorem ok_shownAll : ∀ xs : List PyData, layL xs = true → ∀ t ∈ PyData.shownAll xs, PyData.strOk t = true
  | [], _, t, ht => by simp [PyData.shownAll] at ht
  | x :: xs, h, t, ht => by
    simp only [layL, Bool.and_eq_true] at h
    simp only [PyData.shownAll, List.mem_cons] at ht
    rcases ht with rfl | ht
    · exact ok_shown x h.1
    · exact ok_shownAll xs h.2 t ht
theorem ok_shownKv : ∀ xs : List (PyData × PyData), layK xs = true → ∀ t ∈ PyData.shownKv xs, PyData.strOk t = true
  | [], _, t, ht => by simp [PyData.shownKv] at ht
  | (k, v) :: xs, h, t, ht => by
    simp only [layK, Bool.and_eq_true] at h
    simp only [PyData.shownKv, List.mem_cons] at ht
    rcases ht with rfl | ht
    · exact ok_app (ok_app (ok_shown k h.1.1) (ok_ofString _)) (ok_shown v h.1.2)
    · exact ok_shownKv xs h.2 t ht
end
/-- the text of data, as data -/
theorem Tame.text {d : PyData} {k n : Nat} (t : Tame d k n) : Tame (.str d.shown) 1 (302 * n + 300) := by
  have := PyData.shown_le_bulk 300 (by decide) d t.short
  have := t.bulk
  exact tame_str (by omega) (ok_shown d t.lay)
end PC

set_option Elab.async false
set_option linter.all false
set_option maxRecDepth 100000
set_option maxHeartbeats 2000000
/-! PcE: the program's own error classes: made, raised, caught, asked. -/
namespace PC
open PySem PySem.Spec PySem.W PySem.Calls PyProof.Rows L2
open Builtin Builtin.ObjectAttr

/-- a built-in class over which error classes of the program stand -/
structure ErrBase (B newId initId : String) (tl : List Value) : Prop where
  f : ExcBaseFacts B newId initId tl
  pass : ∀ x, refuseLoop x "__setattr__" tl = pure ()
  obj : tl.contains (.type "object") = true
  hand : handedIn (.builtin initId) = true
theorem eb_value : ErrBase "ValueError" "ValueError.__new__" "ValueError.__init__" [.type "ValueError", .type "Exception", .type "BaseException", .type "object"] :=
  ⟨F.excBase_ValueError, F.store_ValueError.passes, by decide +kernel, by first | rfl | decide +kernel⟩
theorem eb_arith : ErrBase "ArithmeticError" "ArithmeticError.__new__" "ArithmeticError.__init__" [.type "ArithmeticError", .type "Exception", .type "BaseException", .type "object"] :=
  ⟨F.excBase_ArithmeticError, F.store_ArithmeticError.passes, by decide +kernel, by first | rfl | decide +kernel⟩

theorem mro_has {C D : Addr} {tl : List Value} (T : String) : (Value.ref C :: .ref D :: tl).contains (.type T) = tl.contains (.type T) := by
  rw [List.contains_cons, List.contains_cons]
  rfl
theorem mro_has1 {D : Addr} {tl : List Value} (T : String) : (Value.ref D :: tl).contains (.type T) = tl.contains (.type T) := by
  rw [List.contains_cons]
  rfl

section
variable {prog : Program} {w : World} {A : Around} {R : Result → Shared → Prop}
  {u : Heap} {g : Array GenState} {dr : Drawn} {n : Nat} {os : OsState}
  {B newId initId : String} {tl : List Value}
/-- what the two ways to a field share -/
theorem err_set {K : W.Frag} {f : Str} {tk : Tok} {v : Value} {x C D : Addr} {ox : Obj} {od : Option Obj} {cd : ClassData}
    (BB : ErrBase B newId initId tl) (X : K.In u) (J : W.InstAt u x ox C od)
    (hcd : W.clsIn K C = some cd) (hm : cd.mro = .ref C :: .ref D :: tl) (hf : W.findIn K (.ref C) f = some none)
    (hq : wpAny (model prog w) A.in1 (storeInOwnDict (.ref x) (.ref C) (.str f tk) f v false)
      (fun fin s' => match fin with
        | .done y => R (.ok y) s'
        | .again c' => c'.quiet = true ∧ codeAny (model prog w) A c' R s') (fun e s' => R (.error e) s') ⟨u, g, dr, n, os⟩) :
    codeAny (model prog w) A (.call (.builtin "object.__setattr__") ⟨[.ref x, .str f tk, v], []⟩) R ⟨u, g, dr, n, os⟩ := by
  have S := F.store_object
  have h1 : cd.mro.contains (.type "object") = true := by
    rw [hm, mro_has]
    exact BB.obj
  have h2 : W.mroIn K C (.type "object") = some true := by
    unfold W.mroIn
    rw [hcd, Option.bind_some, h1, hm]
    rfl
  have h3 : W.Looks (model prog w) u (isInstance (.ref x) (.type "object")) true := J.type.andThen (W.looks_mroIn X h2)
  have h4 : W.Looks (model prog w) u (mroOf (.ref C)) cd.mro := (W.looks_clsIn X hcd).andThen .now
  have h5 : W.Looks (model prog w) u (storeTaker? none) none := .now
  have h6 : refuseLoop (.ref x) "__setattr__" cd.mro = pure () := by
    rw [hm, refuseLoop_ref, refuseLoop_ref]
    exact BB.pass _
  refine codeAny_call_builtin S.slot.plain S.entry
    (@W.check_slot (model prog w) _ _ ⟨u, g, dr, n, os⟩ "object.__setattr__" "object" "__setattr__" (.ref x) [.str f tk, v] [] _
      S.kind S.split h3 (S.args (.ref x) (.str f tk) v) ?_)
  rw [W.osa_eq, refuse_eq]
  refine wpAny_bind (wpAny_bind (J.type.at (wpAny_bind (h4.at ?_))))
  rw [h6]
  exact wpAny_pure (wpAny_bind (J.type.at (wpAny_bind ((W.looks_findIn X hf).at (wpAny_bind (h5.at hq))))))
/-- the first field -/
theorem err_set0 {K : W.Frag} {f : Str} {tk : Tok} {v : Value} {x C D : Addr} {fv : Array Value} {cd : ClassData}
    (BB : ErrBase B newId initId tl) (X : K.In u) (hx : u.get? x = some { cls := .ref C, data := .fields fv })
    (hcd : W.clsIn K C = some cd) (hm : cd.mro = .ref C :: .ref D :: tl) (hd : cd.hasDict = true) (hf : W.findIn K (.ref C) f = some none)
    (hq : ∀ u' n' dx, (∀ b o, b ≠ x → u.get? b = some o → u'.get? b = some o) → u.objs.size ≤ dx → dx ≠ x →
      u'.get? x = some { cls := .ref C, dict := some dx, data := .fields fv } →
      u'.Ns1 dx (fun y => if y = f then some v else none) → R (.ok (.ret .none)) ⟨u', g, dr, n', os⟩) :
    codeAny (model prog w) A (.call (.builtin "object.__setattr__") ⟨[.ref x, .str f tk, v], []⟩) R ⟨u, g, dr, n, os⟩ := by
  have J : W.InstAt u x { cls := .ref C, data := .fields fv } C none := ⟨hx, rfl, rfl, trivial⟩
  have lt : x ≠ u.objs.size := Nat.ne_of_lt (Heap.lt_size hx)
  refine err_set BB X J hcd hm hf ?_
  have hc : W.Looks (model prog w) u (classData C) cd := W.looks_clsIn X hcd
  obtain ⟨c1, c2, c3, c4, c5, c6, c7, c8, c9, c10, c11⟩ := cd
  dsimp only at hd
  subst hd
  unfold storeInOwnDict ownDictForStores
  repeat (first
    | with_reducible refine HandSPX.store_in_new ?_ ?_
    | with_reducible refine wpAny_loadPart_at hx ?_
    | with_reducible refine hc.at ?_
    | wp_step)
  · exact ⟨_, #[], _, (Heap.get?_update_ne _ _ _ _ lt.symm).trans (Heap.get?_push_at rfl rfl), rfl,
      fun e he => absurd he (by simp), fun _ => rfl⟩
  · intro u' n' hn hs
    have hx' : (u.push { cls := .type "dict", data := .dict #[] }).get? x = some { cls := .ref C, data := .fields fv } :=
      Heap.get?_push_of_some _ hx
    refine hq u' n' u.objs.size (fun b o hb ho => ?_) (Nat.le_refl _) lt.symm ?_ hn
    · exact (hs.2 b (Nat.ne_of_lt (Heap.lt_size ho))).trans
        ((Heap.get?_update_ne _ _ _ _ hb).trans (Heap.get?_push_of_some _ ho))
    · exact (hs.2 x lt).trans (Heap.get?_update_self _ hx' rfl)
theorem put_in {M : Model} {A : Around} {E : Value → Shared → Prop} {dx : Addr} {f : Str} {tk : Tok} {v : Value}
    {m0 : Str → Option Value} {ns : List Str} {Q : Fin → Shared → Prop} (hn : u.Ns1 dx m0) (hw : Within m0 ns) (hz : ns.length ≤ 1000)
    (hq : ∀ u' n', u'.Ns1 dx (fun y => if y = f then some v else m0 y) → Heap.SameBut dx u u' → Q (.done (.ret .none)) ⟨u', g, dr, n', os⟩) :
    wpAny M A (storeInDict dx (.str f tk) f v) Q E ⟨u, g, dr, n, os⟩ := by
  unfold storeInDict newKeyGuard
  refine wpAny_bind (wpAny_pure (wpAny_bind (wpAny_nsSet1 hn fun u' hn' hs => ?_)))
  obtain ⟨o1, e1, p1, ho1, hd1, hc1⟩ := hn'.count (Within.cons f v hw)
  have few : e1.size ≤ sizeLine := by
    refine Nat.le_trans hc1 ?_
    rw [List.length_cons, sizeLine_eq]
    omega
  refine wpAny_bind (wpAny_lookBehind ho1 (by rw [hd1]; exact pastItsLine_dict (Nat.le_succ_of_le few)) ?_)
  wp_walk
  exact hq u' _ hn' hs
/-- a further field -/
theorem err_set1 {K : W.Frag} {f : Str} {tk : Tok} {v : Value} {x C D dx : Addr} {fv : Array Value} {cd : ClassData}
    {m0 : Str → Option Value} {ns : List Str}
    (BB : ErrBase B newId initId tl) (X : K.In u) (hx : u.get? x = some { cls := .ref C, dict := some dx, data := .fields fv })
    (hn : u.Ns1 dx m0) (hw : Within m0 ns) (hz : ns.length ≤ 1000)
    (hcd : W.clsIn K C = some cd) (hm : cd.mro = .ref C :: .ref D :: tl) (hd : cd.hasDict = true) (hf : W.findIn K (.ref C) f = some none)
    (hq : ∀ u' n', (∀ b o, b ≠ dx → u.get? b = some o → u'.get? b = some o) →
      u'.Ns1 dx (fun y => if y = f then some v else m0 y) → R (.ok (.ret .none)) ⟨u', g, dr, n', os⟩) :
    codeAny (model prog w) A (.call (.builtin "object.__setattr__") ⟨[.ref x, .str f tk, v], []⟩) R ⟨u, g, dr, n, os⟩ := by
  obtain ⟨o1, e1, p1, ho1, hd1, hc1⟩ := hn.count hw
  have J : W.InstAt u x { cls := .ref C, dict := some dx, data := .fields fv } C (some o1) := ⟨hx, rfl, rfl, ho1⟩
  refine err_set BB X J hcd hm hf ?_
  have hc : W.Looks (model prog w) u (classData C) cd := W.looks_clsIn X hcd
  obtain ⟨c1, c2, c3, c4, c5, c6, c7, c8, c9, c10, c11⟩ := cd
  dsimp only at hd
  subst hd
  unfold storeInOwnDict ownDictForStores
  repeat (first
    | with_reducible refine put_in hn hw hz ?_
    | with_reducible refine wpAny_loadPart_at hx ?_
    | with_reducible refine hc.at ?_
    | wp_step)
  intro u' n' hn' hs
  exact hq u' n' (fun b o hb ho => (hs.2 b hb).trans ho) hn'
end

/-! ### the text of an error class -/
abbrev P4 := Pos × Pos × Pos × Pos
def erSt (f : Str) (p : P4) : Stmt := .Assign [.Attribute (.Name "self" p.1) f p.2.1] (.Name f p.2.2.1) p.2.2.2
/-- `__init__(self, f, ..)` of an error class over `base`: the base's own, then the fields -/
structure ErDef (st : Stmt) (qual base : Str) (f : Str) (fs : List Str) : Prop where
  bind : ∀ (kV doc pm : Value) (an : Option Addr) (cdv ct : Value) (us : List Value), us.length = (f :: fs).length + 1 →
    bindArgs (fnOf "__init__" qual (defArgs st) (defBody st) (defScope st) .none kV doc pm an cdv ct) ⟨us, []⟩ = pure ((("self" : Str) :: f :: fs).zip us)
  co : (defScope st).isCoroutine = false
  gen : (defScope st).isGenerator = false
  kind : (defScope st).kind = .function
  loc : ∀ y ∈ (("self" : Str) :: f :: fs), (defScope st).names.lookup y = some .local
  glo : (defScope st).names.lookup base = some .globalImplicit
  nd : (("self" : Str) :: f :: fs).Nodup
  few : fs.length ≤ 100
  ndb : ((f == ("__debug__" : Str)) = false) ∧ (∀ y ∈ fs, (y == ("__debug__" : Str)) = false) ∧ (base == ("__debug__" : Str)) = false
  hi : ∀ (L a : Addr) (cd : Value), interactive (envOfC qual (defScope st) L a cd) = false
  body : ∃ (text : Str) (j : Nat) (q1 q2 q3 q4 q5 q6 : Pos) (r : P4) (rs : List P4) (pl : Addr → Addr → Value → Sem Bool), rs.length = fs.length ∧
    (∀ (L a : Addr) (cd : Value), eval (.Call (.Attribute (.Name base q1) "__init__" q2) [.Name "self" q3, .Constant (.str text) j q4] [] q5) (envOfC qual (defScope st) L a cd) = (do
      let ov ← eval (.Name base q1) (envOfC qual (defScope st) L a cd)
      standAt q2.atName
      let (m, first) ← holding [ov] (getMethod ov "__init__" (pl L a cd))
      callWith q5 m first (backTo q5 (starEach [.Name "self" q3, .Constant (.str text) j q4] (envOfC qual (defScope st) L a cd)))
        (backToKw q5 (keywordEach [] (envOfC qual (defScope st) L a cd))))) ∧
    defBody st = .Expr (.Call (.Attribute (.Name base q1) "__init__" q2) [.Name "self" q3, .Constant (.str text) j q4] [] q5) q6 ::
      erSt f r :: (fs.zip rs).map fun y => erSt y.1 y.2
/-- what the written part says of the error class at C over the program's class at D -/
structure ErrT (K : Frag) (mg : Str → Option Value) (nm base : Str) (B newId initId : String) (tl : List Value) (f : Str) (fs : List Str)
    (C D fI : Addr) (st : Stmt) : Prop where
  bb : ErrBase B newId initId tl
  gC : mg nm = some (.ref C)
  gD : mg base = some (.ref D)
  cls : ∃ n1 q N bs sn sub ab col dd k0 k1 k2 k3 k5,
    K.lookup C = some (excClassObj n1 q C N bs (.ref D :: tl) true sn sub ab col dd k0 k1 k2 k3 k5 newId)
  sa : findIn K (.ref C) "__setattr__" = some (some (.builtin "object.__setattr__"))
  noF : ∀ y ∈ f :: fs, findIn K (.ref C) y = some none
  iC : findIn K (.ref C) "__init__" = some (some (.ref fI))
  tI : typeIn K (.ref fI) = some (.type "function")
  kC : keepIn K (.ref C) = true
  eC : subIn K (.ref C) (.type "BaseException") = some true
  tC : typeIn K (.ref C) = some (.type "type")
  rD : readsIn K D (.type "type") = true
  gaD : specialIn K (.ref D) "__getattribute__" = some (some (.builtin "type.__getattribute__"))
  iD : findCls K (.ref D) (.type "type") "__init__" = some (.val (.builtin initId))
  fn : ∃ (qual : Str) (oc : Value) (od : Option Addr) (kV doc pm : Value) (an : Option Addr) (cdv ct : Value) (osl : Array (Option Value)),
    K.lookup fI = some ⟨oc, od, .func (fnOf "__init__" qual (defArgs st) (defBody st) (defScope st) .none kV doc pm an cdv ct), osl⟩ ∧
    codeIn K cdv qual = true ∧ ErDef st qual base f fs

theorem bindL_get {k : Str → Option NameKind} : ∀ (r : List (Str × Value)) (m : Str → Option Value), (∀ y ∈ r, k y.1 = some .local) →
    (r.map (·.1)).Nodup → ∀ n, (n ∉ r.map (·.1) → bindL k r m n = m n) ∧ ∀ v, (n, v) ∈ r → bindL k r m n = some v := by
  intro r
  induction r with
  | nil => exact fun m _ _ n => ⟨fun _ => rfl, fun v h => by cases h⟩
  | cons y r ih =>
    obtain ⟨x, u⟩ := y
    intro m hk hn n
    rw [List.map_cons, List.nodup_cons] at hn
    have hx : k x = some .local := hk (x, u) List.mem_cons_self
    obtain ⟨i1, i2⟩ := ih (fun y => if y = x then some u else m y) (fun y hy => hk y (List.mem_cons_of_mem _ hy)) hn.2 n
    have e : bindL k ((x, u) :: r) m = bindL k r (fun y => if y = x then some u else m y) := by
      show bindL k r (if k x = some .local then _ else m) = _
      rw [if_pos hx]
    rw [e]
    refine ⟨fun h => ?_, fun v h => ?_⟩
    · rw [List.map_cons, List.mem_cons, not_or] at h
      rw [i1 h.2, if_neg h.1]
    · rcases List.mem_cons.mp h with q | q
      · cases q
        rw [i1 hn.1, if_pos rfl]
      · exact i2 v q
theorem ns1_put {u : Heap} {dx : Addr} {f : Str} {v : Value} {acc : List (Str × Value)}
    (h : u.Ns1 dx (fun y => if y = f then some v else acc.lookup y)) : u.Ns1 dx fun y => ((f, v) :: acc).lookup y := by
  have e : (fun y => ((f, v) :: acc).lookup y) = fun y => if y = f then some v else acc.lookup y := by
    funext y
    by_cases c : y = f
    · subst c
      simp [List.lookup]
    · have c' : (y == f) = false := by simpa using c
      rw [if_neg c]
      simp [List.lookup, c']
  rw [e]
  exact h
theorem within_lk {acc : List (Str × Value)} : Within (fun y => acc.lookup y) (acc.map (·.1)) := by
  intro y h
  induction acc with
  | nil => exact absurd rfl h
  | cons p r ih =>
    obtain ⟨f, v⟩ := p
    by_cases c : y = f
    · subst c
      exact List.mem_cons_self
    · have c' : (y == f) = false := by simpa using c
      refine List.mem_cons_of_mem _ (ih ?_)
      have e : ((f, v) :: r).lookup y = r.lookup y := by simp [List.lookup, c']
      exact fun z => h (e.trans z)
theorem zip3 {α β γ δ : Type} (g : α × β → δ) : ∀ (fs : List α) (rs : List β) (vs : List γ), rs.length = fs.length → vs.length = fs.length →
    (fs.zip rs).map g = ((fs.zip rs).zip vs).map (fun y => g y.1) ∧ ((fs.zip rs).zip vs).map (fun y => (y.1.1, y.2)) = fs.zip vs ∧
    ∀ y ∈ (fs.zip rs).zip vs, y.1.1 ∈ fs ∧ (y.1.1, y.2) ∈ fs.zip vs
  | [], _, _, _, _ => ⟨rfl, rfl, fun _ h => by cases h⟩
  | a :: fs, b :: rs, c :: vs, h1, h2 => by
    obtain ⟨i1, i2, i3⟩ := zip3 g fs rs vs (Nat.succ.inj h1) (Nat.succ.inj h2)
    refine ⟨?_, ?_, fun y hy => ?_⟩
    · show g (a, b) :: (fs.zip rs).map g = g (a, b) :: ((fs.zip rs).zip vs).map (fun y => g y.1)
      rw [i1]
    · show (a, c) :: ((fs.zip rs).zip vs).map (fun y => (y.1.1, y.2)) = (a, c) :: fs.zip vs
      rw [i2]
    · rcases List.mem_cons.mp (show y ∈ ((a, b), c) :: (fs.zip rs).zip vs from hy) with e | e
      · subst e
        exact ⟨List.mem_cons_self, List.mem_cons_self⟩
      · exact ⟨List.mem_cons_of_mem _ (i3 y e).1, List.mem_cons_of_mem _ (i3 y e).2⟩
theorem kin_but {K : Frag} {u u' : Heap} {x : Addr} (X : K.In u) (hx : K.lookup x = none)
    (k : ∀ b o, b ≠ x → u.get? b = some o → u'.get? b = some o) : K.In u' := fun b o e =>
  k b o (fun z => by rw [z, hx] at e; cases e) (X b o e)
theorem ns_but {u u' : Heap} {x L : Addr} {m : Str → Option Value} (h : u.Ns L m) (hx : L ≠ x)
    (k : ∀ b o, b ≠ x → u.get? b = some o → u'.get? b = some o) : u'.Ns L m := h.at fun o e => k L o hx e

section
variable {prog : Program} {w : World} {A : Around} {E : Value → Shared → Prop} {s : Shared} {K : Frag} {mg : Str → Option Value}
  {nm base : Str} {B newId initId : String} {tl : List Value} {f : Str} {fs : List Str} {C D fI : Addr} {st : Stmt}
theorem ld_l {M : Model} {env : Env} {m : Str → Option Value} {x : Str} {pos : Pos} {v : Value} {Q : Value → Shared → Prop}
    (hn : s.heap.Ns env.locals m) (hv : m x = some v) (hk : env.scope.kind = .function) (hl : env.kindOf x = some .local)
    (hd : (x == ("__debug__" : Str)) = false) (h : Q v s) : wpAny M A (eval (.Name x pos) env) Q E s :=
  wpAny_Name (wpAny_loadName_local hk hl hn hv h) hd
/-- what a made error is -/
structure ErMade (h h' : Heap) (e C d : Addr) (acc : List (Str × Value)) : Prop where
  keep : ∀ b o, h.get? b = some o → h'.get? b = some o
  new : h.objs.size ≤ e
  obj : ∃ t, h'.get? e = some { cls := .ref C, dict := some d, data := .fields #[.ref t, .none, .none, .none, .bool false, .none] }
  dbig : h.objs.size ≤ d
  dne : d ≠ e
  ns : h'.Ns1 d fun y => acc.lookup y
theorem er_stores (T : ErrT K mg nm base B newId initId tl f fs C D fI st) {env : Env} {x dx : Addr} {m : Str → Option Value} {fv : Array Value}
    (hkd : env.scope.kind = .function) (hs : m "self" = some (.ref x)) (hks : env.kindOf "self" = some .local)
    (hLx : env.locals ≠ dx) (hKd : K.lookup dx = none) (hxd : x ≠ dx) :
    ∀ (ys : List ((Str × P4) × Value)) (acc : List (Str × Value)) (s : Shared) (Q : Flow → Shared → Prop),
      K.In s.heap → s.heap.Ns env.locals m → (∀ y ∈ ys, m y.1.1 = some y.2 ∧ env.kindOf y.1.1 = some .local ∧
        findIn K (.ref C) y.1.1 = some none ∧ (y.1.1 == ("__debug__" : Str)) = false) →
      s.heap.get? x = some { cls := .ref C, dict := some dx, data := .fields fv } → (s.heap.Ns1 dx fun y => acc.lookup y) →
      acc.length + ys.length ≤ 1000 →
      (∀ h' tk, (∀ b o, b ≠ dx → s.heap.get? b = some o → h'.get? b = some o) →
        (h'.Ns1 dx fun y => ((ys.map fun y => (y.1.1, y.2)).reverse ++ acc).lookup y) → Q .next { s with heap := h', toks := tk }) →
      wpAny (model prog w) A (execs (ys.map fun y => erSt y.1.1 y.1.2) env) Q E s
  | [], acc, s, Q, X, hn, hy, hx, h1, hz, hq => wpAny_execs_nil (hq s.heap s.toks (fun _ _ _ e => e) (by simpa using h1))
  | y :: ys, acc, s, Q, X, hn, hy, hx, h1, hz, hq => by
    obtain ⟨n1, q, N, bs, sn, sub, ab, col, dd, k0, k1, k2, k3, k5, hC⟩ := T.cls
    have hcl : clsIn K C = some { name := n1, bases := bs, mro := .ref C :: .ref D :: tl, ns := N, qualname := q, hasDict := true, slotNames := sn, subclasses := sub, abstract := ab, collection := col, hasDel := false } := by
      unfold clsIn
      rw [hC] <;> rfl
    obtain ⟨y1, y2, y3, y4⟩ := hy y List.mem_cons_self
    obtain ⟨o1, e1, p1, ho1, _, _⟩ := h1.count within_lk
    show wpAny _ _ (execs (erSt y.1.1 y.1.2 :: _) env) _ _ _
    refine wpAny_execs_cons (plainObj_wpAny_Assign_Attribute ?_ (by rfl))
    refine ld_l hn y1 hkd y2 y4 (ld_l hn hs hkd hks (by decide) ?_)
    refine set_plain X (ox := { cls := .ref C, dict := some dx, data := .fields fv }) (od := some o1) ⟨hx, rfl, rfl, ho1⟩ T.sa ?_
    refine err_set1 T.bb X hx h1 within_lk (by rw [List.length_map]; omega) hcl rfl rfl y3 (fun u' n' k hn' => ?_)
    show wpAny _ _ (execs _ _) _ _ _
    refine er_stores T hkd hs hks hLx hKd hxd ys ((y.1.1, y.2) :: acc) { s with heap := u', toks := n' } Q (kin_but X hKd k)
      (ns_but hn hLx k) (fun z hz => hy z (List.mem_cons_of_mem _ hz)) (k _ _ hxd hx) (ns1_put hn')
      (by rw [List.length_cons] at hz ⊢; omega) (fun h' tk k' hn2 => ?_)
    refine hq h' tk (fun b o hb e => k' b o hb (k b o hb e)) ?_
    have e : ((y :: ys).map fun y => (y.1.1, y.2)).reverse ++ acc = ((ys.map fun y => (y.1.1, y.2)).reverse) ++ (y.1.1, y.2) :: acc := by
      rw [List.map_cons, List.reverse_cons, List.append_assoc]
      rfl
    rw [e]
    exact hn2
theorem er_init (T : ErrT K mg nm base B newId initId tl f fs C D fI st) {R : Result → Shared → Prop} {x t0 : Addr} {v : Value} {vs : List Value}
    (X : K.In s.heap) (hg : s.heap.Ns mainGlobals mg) (hgx : mainGlobals ≠ x) (hlim : s.heap.NoLimit) (hx : s.heap.get? x = some (HandSPX.excO C t0))
    (hnx : K.lookup x = none) (hroom : A.depth < recursionLimit) (hl : vs.length = fs.length)
    (hq : ∀ h' tk dx t1, (∀ b o, b ≠ x → s.heap.get? b = some o → h'.get? b = some o) →
      h'.get? x = some { cls := .ref C, dict := some dx, data := .fields #[.ref t1, .none, .none, .none, .bool false, .none] } →
      s.heap.objs.size ≤ dx → dx ≠ x → (h'.Ns1 dx fun y => ((fs.zip vs).reverse ++ [(f, v)]).lookup y) → R (.ok (.ret .none)) { s with heap := h', toks := tk }) :
    codeAny (model prog w) A (.call (.ref fI) ⟨.ref x :: v :: vs, []⟩) R s := by
  obtain ⟨qual, oc, od, kV, doc, pm, an, cdv, ct, osl, ho, hcd, df⟩ := T.fn
  obtain ⟨n1, q, N, bs, sn, sub, ab, col, dd, k0, k1, k2, k3, k5, hC⟩ := T.cls
  have hcl : clsIn K C = some { name := n1, bases := bs, mro := .ref C :: .ref D :: tl, ns := N, qualname := q, hasDict := true, slotNames := sn, subclasses := sub, abstract := ab, collection := col, hasDel := false } := by
    unfold clsIn
    rw [hC] <;> rfl
  obtain ⟨text, j, q1, q2, q3, q4, q5, q6, r, rs, pl, hrs, hev, hbd⟩ := df.body
  have hzl : (("self" : Str) :: f :: fs).length = (Value.ref x :: v :: vs).length := by simp [hl]
  have all : ∀ y ∈ (("self" : Str) :: f :: fs).zip (Value.ref x :: v :: vs), (defScope st).names.lookup y.1 = some .local := by
    rintro ⟨y1, y2⟩ hy
    exact df.loc y1 (List.of_mem_zip hy).1
  refine Att.call_fn (binds := (("self" : Str) :: f :: fs).zip (.ref x :: v :: vs)) X hlim ho hcd hroom
    (BindsTo.of_eq (df.bind _ _ _ _ _ _ _ (by simp [hl]))) (List.all_eq_true.mpr fun y hy => ?_) (fun s₁ IC => ?_) df.co df.gen df.kind
  · rw [all y hy]
    rfl
  obtain ⟨h₁, tk₁, rfl⟩ := IC.toInCall.same
  have k : ∀ b o, s.heap.get? b = some o → h₁.get? b = some o := IC.toInCall.keep
  have hn := IC.toInCall.ns
  have hxL : s.heap.objs.size ≠ x := Nat.ne_of_gt (Heap.lt_size hx)
  have X₁ : K.In h₁ := X.keeps k
  have hx₁ := k _ _ hx
  have hg₁ : h₁.Ns mainGlobals mg := hg.keeps k
  have hmk : ((("self" : Str) :: f :: fs).zip (Value.ref x :: v :: vs)).map (·.1) = ("self" : Str) :: f :: fs := List.map_fst_zip (Nat.le_of_eq hzl)
  have get : ∀ n u, (n, u) ∈ (("self" : Str) :: f :: fs).zip (Value.ref x :: v :: vs) → bindL (envOfC qual (defScope st) s.heap.objs.size fI cdv).kindOf
      ((("self" : Str) :: f :: fs).zip (Value.ref x :: v :: vs)) (fun _ => none) n = some u := fun n u h =>
    (bindL_get _ _ all (by rw [hmk]; exact df.nd) n).2 u h
  have hself := get "self" (.ref x) List.mem_cons_self
  have hf := get f v (List.mem_cons_of_mem _ List.mem_cons_self)
  have kl : ∀ y ∈ (("self" : Str) :: f :: fs), (envOfC qual (defScope st) s.heap.objs.size fI cdv).kindOf y = some .local := df.loc
  rw [hbd]
  show wpAny _ _ (execs _ _) _ _ _
  -- Base.__init__(self, text)
  refine wpAny_execs_cons (wpAny_Expr_any (methodCall_KW ?_ (hev _ _ _)) (df.hi _ _ _) (by rfl))
  refine Name_function_global (env := envOfC qual (defScope st) s.heap.objs.size fI cdv) df.kind df.glo
    (loadGlobal_global (s := { s with heap := h₁, toks := tk₁ }) (env := envOfC qual (defScope st) s.heap.objs.size fI cdv) hg₁ T.gD ?_) df.ndb.2.2
  refine method_cls X₁ T.gaD (cls_value X₁ T.rD T.iD T.bb.hand ?_)
  refine callWith_method1 (spliced_more (ld_l hn hself df.kind (kl _ List.mem_cons_self) (by decide) (spliced_more (Constant_str (spliced_none ?_))))) (by rfl) (by rfl)
  refine wpAny_call (HandSPX.init_base T.bb.f (fun Y => mro_has1 Y) (X₁ _ _ hC) hx₁ ?_ fun h₂ t2 k2 hx₂ => ?_)
  · rw [sizeLine_eq]
    exact (by decide : 1 ≤ 16777216)
  have X₂ : K.In h₂ := kin_but X₁ hnx k2
  have hn₂ := ns_but hn hxL k2
  -- the first field
  show wpAny _ _ (execs (erSt f r :: _) _) _ _ _
  refine wpAny_execs_cons (plainObj_wpAny_Assign_Attribute ?_ (by rfl))
  refine ld_l hn₂ hf df.kind (kl _ (List.mem_cons_of_mem _ List.mem_cons_self)) df.ndb.1 (ld_l hn₂ hself df.kind (kl _ List.mem_cons_self) (by decide) ?_)
  refine set_plain X₂ (ox := HandSPX.excO C t2) (od := none) ⟨hx₂, rfl, rfl, trivial⟩ T.sa ?_
  refine err_set0 T.bb X₂ hx₂ hcl rfl rfl (T.noF f List.mem_cons_self) (fun h₃ tk₃ dx k₃ dn dne hx₃ hn₃ => ?_)
  show wpAny _ _ (execs _ _) _ _ _
  have keep2 : ∀ b o, b ≠ x → s.heap.get? b = some o → h₂.get? b = some o := fun b o hb e => k2 b o hb (k b o e)
  have L2 : s.heap.objs.size < h₂.objs.size := hn₂.lt
  have big : s.heap.objs.size ≤ dx := Nat.le_trans (Nat.le_of_lt L2) dn
  have hKd : K.lookup dx = none := by
    cases e : K.lookup dx with
    | none => rfl
    | some o => exact absurd (Heap.lt_size (X _ _ e)) (Nat.not_lt.mpr big)
  obtain ⟨eqs, eqn, eqm⟩ := zip3 (fun y : Str × P4 => erSt y.1 y.2) fs rs vs hrs hl
  rw [eqs]
  refine er_stores T (x := x) (dx := dx) df.kind hself (kl _ List.mem_cons_self) (Nat.ne_of_lt (Nat.lt_of_lt_of_le L2 dn)) hKd (Ne.symm dne) _ [(f, v)] _ _ (kin_but X₂ hnx k₃) (ns_but hn₂ hxL k₃)
    (fun y hy => ?_) hx₃ (ns1_put hn₃) (by have := df.few; simp [List.length_zip]; omega) (fun h' tk k4 hn4 => ?_)
  · obtain ⟨m1, m2⟩ := eqm y hy
    exact ⟨get _ _ (List.mem_cons_of_mem _ (List.mem_cons_of_mem _ m2)), kl _ (List.mem_cons_of_mem _ (List.mem_cons_of_mem _ m1)),
      T.noF _ (List.mem_cons_of_mem _ m1), df.ndb.2.1 _ m1⟩
  · refine hq h' tk dx t2 (fun b o hb e => k4 b o ?_ (k₃ b o hb (keep2 b o hb e))) (k4 _ _ (Ne.symm dne) hx₃) big dne ?_
    · exact Nat.ne_of_lt (Nat.lt_of_lt_of_le (Heap.lt_size e) big)
    · rw [← eqn]
      exact hn4
end
section
variable {prog : Program} {w : World} {A : Around} {E : Value → Shared → Prop} {s : Shared} {K : Frag} {mg : Str → Option Value}
  {nm base : Str} {B newId initId : String} {tl : List Value} {f : Str} {fs : List Str} {C D fI : Addr} {st : Stmt}
theorem er_made (T : ErrT K mg nm base B newId initId tl f fs C D fI st) {R : Result → Shared → Prop} {v : Value} {vs : List Value}
    (X : K.In s.heap) (hg : s.heap.Ns mainGlobals mg) (hlim : s.heap.NoLimit) (hroom : A.depth + 1 < recursionLimit) (hl : vs.length = fs.length)
    (hq : ∀ h' tk e d, ErMade s.heap h' e C d ((fs.zip vs).reverse ++ [(f, v)]) → R (.ok (.ret (.ref e))) { s with heap := h', toks := tk }) :
    codeAny (model prog w) A (.call (.ref C) ⟨v :: vs, []⟩) R s := by
  obtain ⟨n1, q, N, bs, sn, sub, ab, col, dd, k0, k1, k2, k3, k5, hC⟩ := T.cls
  obtain ⟨_, _, _, _, _, _, _, _, _, _, _, _, df⟩ := T.fn
  obtain ⟨u, g, dr, tk, os⟩ := s
  have old : ∀ b o, u.get? b = some o → ((u.push (kdv_tup (v :: vs))).push (HandSPX.excO C u.objs.size)).get? b = some o :=
    fun b o e => Heap.get?_push_of_some _ (Heap.get?_push_of_some _ e)
  have hget : ((u.push (kdv_tup (v :: vs))).push (HandSPX.excO C u.objs.size)).get? (u.objs.size + 1) = some (HandSPX.excO C u.objs.size) := by
    heap_get
  have fresh : ∀ {b : Addr} {o : Obj}, u.get? b = some o → b ≠ u.objs.size + 1 := fun e =>
    Nat.ne_of_lt (Nat.lt_succ_of_lt (Heap.lt_size e))
  have hnx : K.lookup (u.objs.size + 1) = none := by
    cases e : K.lookup (u.objs.size + 1) with
    | none => rfl
    | some o => exact absurd rfl (fresh (X _ _ e))
  have few : (v :: vs).length ≤ sizeLine := by
    have := df.few
    rw [List.length_cons, hl, sizeLine_eq]
    omega
  refine HandSPX.call_own T.bb.f (fun Y => mro_has1 Y) (X _ _ hC) (looks_findIn X T.iC) (fun self => bind_fn X self T.tI) few ?_
  refine er_init (s := ⟨(u.push (kdv_tup (v :: vs))).push (HandSPX.excO C u.objs.size), g, dr, tk, os⟩) T (X.keeps old) (hg.keeps old) ?_
    (hlim.keeps old) hget hnx ?_ hl fun h' tk' dx t1 k' hx dn dne hns => ?_
  · obtain ⟨o, _, _, e, _⟩ := hg
    exact fresh e
  · show A.depth + 1 < recursionLimit
    exact hroom
  · have z : u.objs.size + 1 + 1 ≤ dx := by
      have q := dn
      simp only [Heap.size_push] at q
      exact q
    exact ⟨rfl, hq h' tk' (u.objs.size + 1) dx ⟨fun b o e => k' b o (fresh e) (old b o e), Nat.le_succ _, ⟨t1, hx⟩, Nat.le_of_succ_le (Nat.le_of_succ_le z), dne, hns⟩⟩
end

/-! ### C(e, ..), C an error class, to be raised -/
theorem rel_nil (y : Str) : RelO (([] : List (Str × V)).lookup y) (([] : List (Str × Value)).lookup y) := trivial
theorem rel_cons {a : List (Str × V)} {b : List (Str × Value)} {f : Str} {v : V} {u : Value} (r : RelV v u)
    (h : ∀ y, RelO (a.lookup y) (b.lookup y)) (y : Str) : RelO (((f, v) :: a).lookup y) (((f, u) :: b).lookup y) := by
  by_cases c : y = f
  · subst c
    have e1 : ((y, v) :: a).lookup y = some v := by simp [List.lookup]
    have e2 : ((y, u) :: b).lookup y = some u := by simp [List.lookup]
    rw [e1, e2]
    exact r
  · have c' : (y == f) = false := by simpa using c
    have q := h y
    simpa [List.lookup, c'] using q
/-- the fields' relation -/
def ErRel (f : Str) (fs : List Str) : Prop := ∀ (v : V) (u : Value) (ws : List V) (us : List Value), RelV v u → Vals ws us → ws.length = fs.length →
  ∀ y, RelO (((fs.zip ws).reverse ++ [(f, v)]).lookup y) (((fs.zip us).reverse ++ [(f, u)]).lookup y)
theorem er_rel1 {f : Str} : ErRel f [] := fun v u ws us r _ _ => rel_cons r rel_nil
def tErr (C : Addr) (f : Str) (fs : List Str) (ta : TA) : L2.St → Hp → XK → Prop := fun σ H Q => ta σ H fun vs H1 =>
  ∃ v ws, vs = v :: ws ∧ ws.length = fs.length ∧ ∀ d, H1 d = none → Q (.ref C) (some d) (upd H1 d (.xd ((fs.zip ws).reverse ++ [(f, v)])))
section
variable {X : Cx} {nm base : Str} {B newId initId : String} {tl : List Value} {f : Str} {fs : List Str} {C D fI : Addr} {st : Stmt}
theorem pmk_err {e : Expr} {es : List Expr} {ta : TA} {p pos : Pos} {k : Nat} (T : ErrT X.K X.mg nm base B newId initId tl f fs C D fI st)
    (rel : ErRel f fs) (hr : Room (k + 1) X.A) (ha : PA X (e :: es) ta) (hg : Gl X nm) (hdb : (nm == ("__debug__" : Str)) = false := by decide)
    (he : starEach (e :: es) X.env = (false, eval e X.env) :: starEach es X.env := by rfl)
    (hpl : (backTo pos (starEach es X.env)).any (·.1) = false := by rfl) :
    PMk X (.Call (.Name nm p) (e :: es) [] pos) (tErr C f fs ta) := by
  intro pins s σ H Q I h
  refine wpAny_Call_Name_kw (ld_glob I hg T.gC ?_ hdb)
  refine callWith_K (h₀ := X.base) I.ok.mod.kin T.kC (thn (ha.run pos pins s σ H _ I h) fun us s1 hh => ?_) he hpl
  obtain ⟨vs, H1, I1, r1, v, ws, ev, hl, q1⟩ := hh
  subst ev
  refine ⟨I1.kIn, ?_⟩
  cases r1 with
  | @cons _ u0 _ ur rv rw =>
    have hlu : ur.length = fs.length := (Paired.length rw).symm.trans hl
    have hlim := I1.nolimit
    have hgl : s1.heap.Ns mainGlobals X.mg := I1.mod.glob.keeps I1.bk
    obtain ⟨u, g, dr, tk, os⟩ := s1
    refine wpAny_call (er_made T I1.kIn hgl hlim (by have := hr.dp; omega) hlu fun h' tk' a d M => ?_)
    show MkP X pins σ Q (.ref a) ⟨h', g, dr, tk', os⟩
    obtain ⟨t1, hoe⟩ := M.obj
    obtain ⟨G, g1, g2⟩ := restrict h' fun b => decide (b ≠ a)
    have ga : ∀ b, b ≠ a → G.get? b = h'.get? b := fun b hb => g1 b (decide_eq_true hb)
    have gn : G.get? a = none := g2 a (by simp)
    have old : ∀ b o, u.get? b = some o → G.get? b = some o := fun b o z =>
      (ga b (Nat.ne_of_lt (Nat.lt_of_lt_of_le (Heap.lt_size z) M.new))).trans (M.keep b o z)
    have ob : ObjOk X.prog X.w (upd H1 d (.xd ((fs.zip ws).reverse ++ [(f, v)]))) G d (.xd ((fs.zip ws).reverse ++ [(f, v)])) :=
      ⟨_, M.ns.at (fun o z => (ga d M.dne).trans z), rel v u0 ws ur rv rw hl⟩
    have J : Inv X pins σ (upd H1 d (.xd ((fs.zip ws).reverse ++ [(f, v)]))) ⟨G, g, dr, tk', os⟩ := I1.laid (t' := tk') old M.dbig ob
    refine ⟨a, _, _, ⟨G, g, dr, tk', os⟩, _, .ref C, some d, rfl, J, fun b o z => ?_, gn, hoe, ⟨rfl, rfl⟩, rfl, rfl, ?_, rfl, I1.bare,
      raises_own T.eC T.tC, q1 d (I1.hok.fresh M.dbig)⟩
    · by_cases hb : b = a
      · subst hb
        have z' : G.get? b = some o := z
        rw [gn] at z'
        cases z'
      · exact (ga b hb).symm.trans z
    · rw [upd_ne (Ne.symm M.dne)]
      exact I1.hok.fresh M.new
/-- raise C(e, ..) -/
theorem ps_err {e : Expr} {es : List Expr} {ta : TA} {W : WX} {p pos pos2 : Pos} {k : Nat} (hc : X.calm = true)
    (T : ErrT X.K X.mg nm base B newId initId tl f fs C D fI st) (rel : ErRel f fs) (hr : Room (k + 1) X.A) (tk : Takes X W)
    (ha : PA X (e :: es) ta) (hg : Gl X nm) (hdb : (nm == ("__debug__" : Str)) = false := by decide)
    (he : starEach (e :: es) X.env = (false, eval e X.env) :: starEach es X.env := by rfl)
    (hpl : (backTo pos (starEach es X.env)).any (·.1) = false := by rfl) :
    PS X (.Raise (some (.Call (.Name nm p) (e :: es) [] pos)) none pos2) (fun _ σ H => tErr C f fs ta σ H fun cls d H' => W cls d σ H') :=
  ps_raise hc tk (pmk_err T rel hr ha hg hdb he hpl)
end

/-! ### a caught error, asked -/
/-- what the written part says of a class of errors, so that its errors may be asked -/
structure ErrQ (K : Frag) (C : Addr) : Prop where
  ga : findIn K (.ref C) "__getattribute__" = some (some (.builtin "BaseException.__getattribute__"))
  gg : findIn K (.ref C) "__getattr__" = some none
  eC : subIn K (.ref C) (.type "BaseException") = some true
  hd : hasDictIn K C = true
  ic : isClsIn K C = true
  tC : typeIn K (.ref C) = some (.type "type")
  ca : findIn K (.ref C) "__class__" = some (some (.builtin "object.__class__"))
  ob : mroIn K C (.type "object") = some true
  me : subIn K (.ref C) (.ref C) = some true
/-- of the built-in `__class__` -/
structure ClsQ (K : Frag) : Prop where
  get : specialIn K (.builtin "object.__class__") "__get__" = some (some (.builtin "getset_descriptor.__get__"))
  tk : takesIn K (.builtin "object.__class__") = some true
theorem ErrQ.xf {K : Frag} {C : Addr} (q : ErrQ K C) : XfC K C := ⟨q.ga, q.gg, q.eC, q.hd⟩
theorem ErrQ.exm {K : Frag} {C C' : Addr} {b : Bool} (q : ErrQ K C') (h : subIn K (.ref C) (.ref C') = some b) : exmOne K (.ref C) (.ref C') = some b := by
  have e1 : (subIn K (.ref C') (.type "BaseException") == some true) = true := by rw [q.eC] <;> rfl
  have ic : (clsIn K C').isSome = true := q.ic
  have e2 : ((clsIn K C').isSome && typeIn K (.ref C') == some (.type "type")) = true := by rw [ic, q.tC] <;> rfl
  show (if _ then (if _ then subIn K (.ref C) (.ref C') else none) else none) = some b
  rw [if_pos e1, if_pos e2]
  exact h
theorem ErrQ.kit {K : Frag} {C C' : Addr} {b : Bool} (q : ErrQ K C') (h : subIn K (.ref C) (.ref C') = some b) : kitOne K (.ref C) (.ref C') = some b := by
  have ic : (clsIn K C').isSome = true := q.ic
  have e2 : ((clsIn K C').isSome && typeIn K (.ref C') == some (.type "type")) = true := by rw [ic, q.tC] <;> rfl
  unfold kitOne
  by_cases c : ((Value.ref C == Value.ref C') = true)
  · have e : C = C' := Value.ref.inj (beq_iff_eq.mp c)
    subst e
    rw [q.me] at h
    rw [if_pos c]
    exact h
  · rw [if_neg c]
    show (if _ then subIn K (.ref C) (.ref C') else none) = some b
    rw [if_pos e2]
    exact h
/-- isinstance(e, c), isinstance(e, (c, ..)), e the error that the suite holds -/
def rIsErr (K : Frag) (a : Addr) (cls : Value) (d : Option Addr) : List V → Hp → VK → Prop := fun xs H Q => ∃ (C : Addr) (c : V) (b : Bool) (dd : Addr) (fs : List (Str × V)),
  xs = [.ref a, c] ∧ cls = .ref C ∧ d = some dd ∧ H dd = some (.xd fs) ∧ ErrQ K C ∧ ClsQ K ∧
  ((∃ u, ClsV c u ∧ kitOne K (.ref C) u = some b) ∨ ∃ tp cs us, c = .ref tp ∧ H tp = some (.tup cs) ∧ Paired ClsV cs us ∧ kitAny K (.ref C) us = some b) ∧ Q (.bl b) H
section
variable {X : Cx} {a : Addr} {oe : Obj} {cls : Value} {d : Option Addr} {pn : List (Addr × Obj)}
theorem inst_err {pins : List (Addr × Obj)} {σ : L2.St} {H : Hp} {s : Shared} {C : Addr} (I : Inv (X.suite a ((a, oe) :: pn)) pins σ H s)
    (hz : Zc (.ref C) d oe) (hf : ∃ vs, oe.data = .fields vs) (dd : Addr) (ed : d = some dd) (fs : List (Str × V)) (h : H dd = some (.xd fs)) :
    ∃ od, InstAt s.heap a oe C (some od) := by
  subst ed
  obtain ⟨ha, _⟩ := I.pin (a, oe) (List.mem_append_left _ List.mem_cons_self)
  obtain ⟨vs, hv⟩ := hf
  have hx : ObjOk X.prog X.w H s.heap dd (.xd fs) := I.hok dd _ h
  obtain ⟨mA, ⟨od, _, _, ho, _⟩, _⟩ := hx
  exact ⟨od, ha, hz.1, by unfold notCls; rw [hv] <;> rfl, by rw [hz.2]; exact ho⟩
theorem call_isErr (hz : Zc cls d oe) (hf : ∃ vs, oe.data = .fields vs) : CallR (X.suite a ((a, oe) :: pn)) (.builtin "isinstance") (rIsErr X.K a cls d) := by
  intro pins s σ H xs us Q I r h
  obtain ⟨C, c, b, dd, fs, rfl, rfl, ed, eh, q, k, hc, hQ⟩ := h
  obtain ⟨od, J⟩ := inst_err I hz hf dd ed fs eh
  obtain ⟨u1, u2, rfl, r1, r2⟩ := vals2 r
  cases (show u1 = Value.ref a from r1)
  have Z := kitx_exc (K := X.K) (x := a) (ox := oe) (od := some od) (C := C) q.ic q.ga q.gg q.eC q.ca k.get k.tk q.ob
  rcases hc with ⟨u, hu, e⟩ | ⟨tp, cs, ws, rfl, hT, hp, e⟩
  · have e2 := hu.eq r2
    subst e2
    exact kia_one Z I.kIn J e (fun z => nomatch z) fun tk => ⟨.bl b, H, I.tok tk, rfl, hQ⟩
  · cases (show u2 = Value.ref tp from r2)
    obtain ⟨_, its, rv, o, h1, h2, n, h3⟩ := (show ObjOk X.prog X.w H s.heap tp (.tup cs) from I.hok tp _ hT)
    have e3 := ClsV.all hp rv
    subst e3
    obtain ⟨oc, od', dt, sl⟩ := o
    simp only at h2 h3
    subst h2 h3
    exact kia_tup Z I.kIn J h1 e (fun z => nomatch z) fun tk => ⟨.bl b, H, I.tok tk, rfl, hQ⟩
end
theorem kita_nil {K : Frag} {t : Value} : kitAny K t [] = some false := rfl
theorem kita_no {K : Frag} {t c : Value} {cs : List Value} {b : Bool} (h : kitOne K t c = some false) (hr : kitAny K t cs = some b) : kitAny K t (c :: cs) = some b := by
  unfold kitAny
  rw [h]
  exact hr
theorem kita_yes {K : Frag} {t c : Value} {cs : List Value} (h : kitOne K t c = some true) : kitAny K t (c :: cs) = some true := by
  unfold kitAny
  rw [h]

/-! ### calls that may raise: what is wished of an exception may lean on the slots -/
/-- f(..) by values, in the slots σ -/
def CallS (X : Cx) (f : Value) (r : L2.St → List V → Hp → VK → Prop) : Prop :=
  ∀ (pins : List (Addr × Obj)) (s : Shared) (σ : L2.St) (H : Hp) (vs : List V) (us : List Value) (Q : VK),
    Inv X pins σ H s → Vals vs us → r σ vs H Q → wpAny (model X.prog X.w) X.A (call f us) (EP X pins σ Q) X.xe s
def CallKS (X : Cx) (f : Value) (ks : List Str) (r : L2.St → List V → List V → Hp → VK → Prop) : Prop :=
  ∀ (pins : List (Addr × Obj)) (s : Shared) (σ : L2.St) (H : Hp) (xs zs : List V) (us ws : List Value) (Q : VK),
    Inv X pins σ H s → Vals xs us → Vals zs ws → r σ xs zs H Q →
    wpAny (model X.prog X.w) X.A (call f us (ks.zip ws)) (EP X pins σ Q) X.xe s
def tCS (r : L2.St → List V → Hp → VK → Prop) (t : TA) : TE := fun σ H Q => t σ H fun vs H1 => r σ vs H1 Q
def tCKS (r : L2.St → List V → List V → Hp → VK → Prop) (t tk : TA) : TE := fun σ H Q => t σ H fun vs H1 => tk σ H1 fun zs H2 => r σ vs zs H2 Q
section
variable {X : Cx} {k : Nat} {f : Addr} {fd : FuncData} {ps ks : List Str} {sp : Sp} {dvs : List V} {ds : List Value} {W : WX}
theorem FnG.atS (F : FnG X.prog X.w X.K X.mg X.base k f fd ps sp) (hg : GOk X) (hr : Room k X.A)
    (hb : Binds X.K fd ps ds) (hd : Vals dvs ds) (tk : Takes X W) :
    CallS X (.ref f) (fun σ vs H Q => sp (vs ++ dvs) H Q (fun cls d H => W cls d σ H)) := by
  intro pins s σ H vs us Q I rv h
  have r2 : Vals (vs ++ dvs) (us ++ ds) := rv.append hd
  have hl : (us ++ ds).length = ps.length := by rw [← r2.length]; exact F.len _ _ _ _ h
  refine wpAny_call (codeAny_mono (F.run X.A X.stack s H ⟨us, []⟩ (us ++ ds) (vs ++ dvs) Q _ hg hr I.env0
    (hb s us I.kIn hl) r2 h) fun r s' hq => ?_)
  match r, hq with
  | .error e, hq => exact tk e s' (XE.of_call I (fun _ _ _ h => h) hq)
  | .ok (.ret u), hq => exact I.after hq
  | .ok .next, hq => exact hq.elim
  | .ok .brk, hq => exact hq.elim
  | .ok .cont, hq => exact hq.elim
theorem FnG.atKS {g : List Value → List Value → List Value} {gV : List V → List V → List V}
    (F : FnG X.prog X.w X.K X.mg X.base k f fd ps sp) (hg : GOk X) (hr : Room k X.A)
    (hb : KBinds X.K fd ps ks g gV) (tk : Takes X W) :
    CallKS X (.ref f) ks (fun σ vs zs H Q => sp (gV vs zs) H Q (fun cls d H => W cls d σ H)) := by
  intro pins s σ H vs zs us ws Q I rv rz h
  have r2 := hb.rel rv rz
  have hl : (g us ws).length = ps.length := by rw [← r2.length]; exact F.len _ _ _ _ h
  refine wpAny_call (codeAny_mono (F.run X.A X.stack s H ⟨us, ks.zip ws⟩ (g us ws) (gV vs zs) Q _ hg hr I.env0
    (hb.to s us ws I.kIn hl) r2 h) fun r s' hq => ?_)
  match r, hq with
  | .error e, hq => exact tk e s' (XE.of_call I (fun _ _ _ h => h) hq)
  | .ok (.ret u), hq => exact I.after hq
  | .ok .next, hq => exact hq.elim
  | .ok .brk, hq => exact hq.elim
  | .ok .cont, hq => exact hq.elim
variable {x : Str} {p pos : Pos} {e : Expr} {es : List Expr} {kws : List Keyword} {t tk : TA}
    {r : L2.St → List V → Hp → VK → Prop} {rk : L2.St → List V → List V → Hp → VK → Prop}
theorem pe_fnS (c : CallS X (.ref f) r) (hg : Gl X x) (hm : X.mg x = some (.ref f)) (hk : keepIn X.K (.ref f) = true)
    (ha : PA X (e :: es) t) (hdb : (x == ("__debug__" : Str)) = false := by decide)
    (he : starEach (e :: es) X.env = (false, eval e X.env) :: starEach es X.env := by rfl)
    (hpl : (backTo pos (starEach es X.env)).any (·.1) = false := by rfl) : PE X (.Call (.Name x p) (e :: es) [] pos) (tCS r t) := by
  refine ⟨fun pins s σ H Q I h => wpAny_Call_Name_kw (ld_glob I hg hm ?_ hdb)⟩
  refine callWith_K (h₀ := X.base) I.ok.mod.kin hk (thn (ha.run pos pins s σ H _ I h) fun us s1 hh => ?_) he hpl
  obtain ⟨vs, H1, I1, rv, q⟩ := hh
  exact ⟨I1.kIn, c pins s1 σ H1 vs us Q I1 rv q⟩
theorem pe_fnKS (c : CallKS X (.ref f) ks rk) (hg : Gl X x) (hm : X.mg x = some (.ref f)) (hk : keepIn X.K (.ref f) = true)
    (ha : PA X (e :: es) t) (hkw : PK X kws tk) (hall : (backToKw pos (keywordEach kws X.env)).all (·.1.isSome) = true := by rfl)
    (hks : (backToKw pos (keywordEach kws X.env)).filterMap (·.1) = ks := by rfl) (hdb : (x == ("__debug__" : Str)) = false := by decide)
    (he : starEach (e :: es) X.env = (false, eval e X.env) :: starEach es X.env := by rfl)
    (hpl : ((backTo pos (starEach (e :: es) X.env)).any (·.1) || (backToKw pos (keywordEach kws X.env)).any (·.1.isNone)) = false := by rfl) :
    PE X (.Call (.Name x p) (e :: es) kws pos) (tCKS rk t tk) := by
  refine ⟨fun pins s σ H Q I h => wpAny_Call_Name_kw (ld_glob I hg hm ?_ hdb)⟩
  refine callWith_KW (h₀ := X.base) I.ok.mod.kin hk hall (thn (ha.run pos pins s σ H _ I h) fun us s1 hh => ?_) hpl he
  obtain ⟨vs, H1, I1, rv, q⟩ := hh
  refine thn (hkw.run pos pins s1 σ H1 _ I1 q) fun ws s2 hh2 => ?_
  obtain ⟨zs, H2, I2, rz, q2⟩ := hh2
  refine ⟨I2.kIn, ?_⟩
  rw [hks]
  exact c pins s2 σ H2 vs zs us ws Q I2 rv rz q2
theorem pe_fnKS0 (c : CallKS X (.ref f) ks rk) (hg : Gl X x) (hm : X.mg x = some (.ref f)) (hk : keepIn X.K (.ref f) = true)
    (hkw : PK X kws tk) (hall : (backToKw pos (keywordEach kws X.env)).all (·.1.isSome) = true := by rfl)
    (hks : (backToKw pos (keywordEach kws X.env)).filterMap (·.1) = ks := by rfl) (hdb : (x == ("__debug__" : Str)) = false := by decide)
    (hpl : ((backTo pos (starEach [] X.env)).any (·.1) || (backToKw pos (keywordEach kws X.env)).any (·.1.isNone)) = false := by rfl) :
    PE X (.Call (.Name x p) [] kws pos) (tCKS rk tNil tk) := by
  refine ⟨fun pins s σ H Q I h => wpAny_Call_Name_kw (ld_glob I hg hm ?_ hdb)⟩
  refine callWith_KW0 (h₀ := X.base) I.ok.mod.kin hk hall (thn (hkw.run pos pins s σ H _ I h) fun ws s2 hh2 => ?_) hpl
  obtain ⟨zs, H2, I2, rz, q2⟩ := hh2
  refine ⟨I2.kIn, ?_⟩
  rw [hks]
  exact c pins s2 σ H2 [] zs [] ws Q I2 .nil rz q2
end
section
variable {σ : L2.St} {H : Hp} {Q : VK} {tr tk : TA}
theorem s_cs {r : L2.St → List V → Hp → VK → Prop} (q : tr σ H fun vs H1 => r σ vs H1 Q) : tCS r tr σ H Q := q
theorem s_cks {r : L2.St → List V → List V → Hp → VK → Prop} (q : tr σ H fun vs H1 => tk σ H1 fun zs H2 => r σ vs zs H2 Q) : tCKS r tr tk σ H Q := q
end

/-! ### keyword-only defaults -/
theorem funD_of {K : Frag} {x qual : Str} {st : Stmt} {f D : Addr} {oc : Value} {od an : Option Addr} {osl : Array (Option Value)} {doc pm cdv ct : Value} {kws : List (Str × V)}
    (l : K.lookup f = some ⟨oc, od, .func (fnOf x qual (defArgs st) (defBody st) (defScope st) .none (.ref D) doc pm an cdv ct), osl⟩)
    (c : codeIn K cdv qual = true) (k : keepIn K (.ref f) = true) (hk : ∀ q ∈ kws, ∃ u, nsIn K D q.1 = some (some u) ∧ RelV q.2 u) :
    FunD K x qual (defArgs st) (defBody st) (defScope st) [] kws f (fnOf x qual (defArgs st) (defBody st) (defScope st) .none (.ref D) doc pm an cdv ct) :=
  ⟨⟨oc, od, .none, .ref D, doc, pm, an, cdv, ct, osl, rfl, l, c, .inl ⟨rfl, rfl⟩, .inr ⟨D, rfl, hk⟩⟩, k⟩
end PC

set_option Elab.async false
set_option linter.all false
set_option maxRecDepth 100000
set_option maxHeartbeats 2000000
/-! PcF: sorted, enumerate, zip of lists and of tuples alike; lists that are changed in place. -/
namespace PC
open PySem PySem.Spec PyProof.Rows L2

/-! ### sorted(x), x a list or a tuple of ints -/
section
variable {prog : Program} {w : World} {A : Around} {E : Value → Shared → Prop} {s : Shared}
theorem collect_tup {l : Addr} {vs : List Value} {Q : List Value → Shared → Prop} (ht : s.heap.IsTuple l vs.toArray) (few : vs.length ≤ sizeLine)
    (q : Q vs { s with heap := (s.heap.push (seqObj "list" #[] 0)).update s.heap.objs.size (Obj.mapSeq (· ++ vs.toArray)) }) :
    wpAny (model prog w) A (collect (.ref l)) Q E s := by
  obtain ⟨o, ho, hc, n, hd⟩ := id ht
  unfold collect
  refine wpAny_bind (wpAny_runValue (codeAny_builtin entry_proto_collect' ?_))
  show wpAny _ _ (do again (.builtin "list.__iadd__" ⟨[← newList [], .ref l], []⟩)) _ _ s
  refine wpAny_bind (wpAny_newList
    (wpAny_pure ⟨Code.quiet_builtin _ (by decide +kernel), codeAny_builtin entry_list_iadd' ?_⟩))
  show wpAny _ _ (Builtin.List.listExtendWith _ _ _) _ _ { s with heap := s.heap.push (seqObj "list" #[] 0) }
  unfold Builtin.List.listExtendWith
  have ho2 : (s.heap.push (seqObj "list" #[] 0)).get? l = some o := Heap.get?_push_of_some _ ho
  refine wpAny_bind (wpAny_typeOf (T := "tuple") ⟨o, ho2, hc⟩ ?_)
  have yes : (Value.type "tuple" == Value.type "tuple") = true := by rfl
  rw [if_pos (by rw [yes]; simp)]
  refine wpAny_bind (listItems_at ho2 hd ?_)
  refine wpAny_bind (listItems_at (n := 0) (xs := #[]) (Heap.get?_push_size _ rfl) rfl ?_)
  rw [if_neg (by simp)]
  have few2 : ((#[] : Array Value) ++ vs.toArray).size ≤ sizeLine + 1 := by
    simp only [Array.size_append, List.size_toArray, List.length_nil]
    omega
  refine wpAny_bind (listUpdate_at (n := 0) (xs := #[]) (Heap.get?_push_size _ rfl) rfl ?_ (Nat.zero_le _) few2)
  refine wpAny_pure ?_
  refine wpAny_bind (wpAny_load (get?_update_seq (Heap.get?_push_size _ rfl) _) ?_)
  show wpAny _ _ (pure ((#[] : Array Value) ++ vs.toArray).toList) Q E _
  rw [show ((#[] : Array Value) ++ vs.toArray).toList = vs by simp]
  exact wpAny_pure q
theorem sorted_tup {l : Addr} {vs : List Value} {ltv : Value → Value → Bool} {Q : Value → Shared → Prop} (O : SrtO.Swo ltv)
    (ht : s.heap.IsTuple l vs.toArray) (few : vs.length ≤ sizeLine)
    (hS : 2 ≤ vs.length → ∀ (u : Heap) (a : Addr), SrtO.SortableO prog w A.in1.in1 { s with heap := u } a vs ltv)
    (q : ∀ out : List Value, SrtO.Srtd ltv out → SrtO.Stb ltv out vs →
      Q (.ref (s.heap.objs.size + 1)) { s with heap := sortedAll s.heap vs out.toArray }) :
    wpAny (model prog w) A (call (.builtin "sorted") [.ref l]) Q E s := by
  refine Calls.call_function_entry kind_sorted plain_sorted entry_sorted (args_sorted1 _) ?_
  unfold Builtin.«sorted»
  refine wpAny_bind (m := checkCount "sorted" 1 1 _) (wpAny_pure ?_)
  refine wpAny_bind (collect_tup ht few (wpAny_bind (wpAny_newList ?_ few)))
  have one : ((s.heap.push (seqObj "list" #[] 0)).update s.heap.objs.size (Obj.mapSeq (· ++ vs.toArray))).objs.size = s.heap.objs.size + 1 := by
    rw [Heap.size_update]
    exact Heap.size_push ..
  have new : (((s.heap.push (seqObj "list" #[] 0)).update s.heap.objs.size (Obj.mapSeq (· ++ vs.toArray))).push
      (seqObj "list" vs.toArray 0)).get? (s.heap.objs.size + 1) = some (seqObj "list" vs.toArray 0) := by
    rw [← one]
    exact Heap.get?_push_size _ rfl
  show wpAny _ _ _ _ _ { s with heap := ((s.heap.push (seqObj "list" #[] 0)).update s.heap.objs.size
    (Obj.mapSeq (· ++ vs.toArray))).push (seqObj "list" vs.toArray 0) }
  rw [one]
  refine wpAny_bind (wpAny_holding (wpAny_call_entry slot_list_sort ⟨_, new, rfl⟩ entry_list_sort
    (SrtO.list_sort_ord O new few (fun h2 => hS h2 _ _) fun out hs hb => ⟨_, rfl, wpAny_pure ⟨_, rfl, q out hs hb⟩⟩) (args_list_sort _)))
end
/-- sorted(x): the ints in ascending order -/
def rSorted (K : PySem.W.Frag) : List V → Hp → VK → Prop := fun vs H Q => ∃ (a : Addr) (ns : List Int), vs = [V.ref a] ∧
  (SqL K H a (ns.map V.int) ∨ SqT K H a (ns.map V.int)) ∧
  ∀ (ms : List Int) (p : Addr), ms.Perm ns → ms.Pairwise (· ≤ ·) → H p = none → Q (.ref p) (upd H p (.lst (ms.map V.int)))
section
variable {X : Cx} {K : PySem.W.Frag}
theorem cr_sortedT {pins : List (Addr × Obj)} {σ : L2.St} {H : Hp} {s : Shared} {a : Addr} {ns : List Int} {Q : VK} (I : Inv X pins σ H s)
    (hs : SqT X.K H a (ns.map V.int))
    (q : ∀ (ms : List Int) (p : Addr), ms.Perm ns → ms.Pairwise (· ≤ ·) → H p = none → Q (.ref p) (upd H p (.lst (ms.map V.int)))) :
    wpAny (model X.prog X.w) X.A (call (.builtin "sorted") [.ref a]) (EP X pins σ Q) X.xe s := by
  obtain ⟨its, rv, hl, hz⟩ := I.tuple hs
  have hi := rv.ints
  refine sorted_tup SrtO.swo_int (show s.heap.IsTuple a its.toArray from hl) (by rw [← rv.length]; exact hz)
    (fun h2 u b => SrtO.ints_sortable hi h2) fun out h1 h2 => ?_
  obtain ⟨k1, k2, k3⟩ := SrtO.ints_out hi h1 h2
  obtain ⟨ep, e⟩ := sortedAll_at s.heap its out.toArray
  have few : ((out.map SrtO.iv).map V.int).length ≤ sizeLine := by
    rw [List.length_map, k2.length_eq]
    simpa using hz
  have big : s.heap.objs.size ≤ s.heap.objs.size + 1 := Nat.le_succ _
  exact ⟨.ref _, upd H (s.heap.objs.size + 1) (.lst ((out.map SrtO.iv).map V.int)),
    I.laid (t' := s.toks) (fun _ _ => sortedAll_old) big ⟨few, out, ep, vals_of_ints k1, e⟩, rfl, q _ _ k2 k3 (I.hok.fresh big)⟩
theorem call_sortedA : CallR X (.builtin "sorted") (rSorted X.K) := by
  intro pins s σ H vs us Q I r h
  obtain ⟨a, ns, rfl, hs | hs, q⟩ := h
  · exact cr_sortedI pins s σ H _ us Q I r ⟨a, ns, rfl, hs, q⟩
  · rw [Vals.ref1 r]
    exact cr_sortedT I hs q
theorem kx_sorted (h : X.K = K) : CallR X (.builtin "sorted") (rSorted K) := by subst h; exact call_sortedA
end

/-! ### enumerate(x), x a tuple -/
theorem Draws.tup {prog : Program} {w : World} {A : Around} (hh : A.handled = none) (it l : Addr) (hne : l ≠ it) (xs : Array Value) :
    Draws prog w A it [it, l] xs.size (fun i v => xs[i]? = some v) (fun i h => h.IsTupleIter it l i ∧ h.IsTuple l xs) where
  live := fun _ _ st => let ⟨o, ho, _⟩ := st.1; ⟨o, ho⟩
  frame := fun _ _ _ st hk => ⟨st.1.at fun o e => hk it (by simp) o e, let ⟨o, e, q⟩ := st.2; ⟨o, hk l (by simp) o e, q⟩⟩
  item := fun i s Q E hi st hQ => by
    refine RZ.nextOf_tuple_item st.1 st.2 (x := xs[i]) (by simp [hi]) fun h' hit hs => ?_
    obtain ⟨o, e, q⟩ := st.2
    exact hQ _ h' s.toks (by simp [hi]) ⟨hit, o, (hs.2 l hne).trans e, q⟩ hs
  done := fun s Q E st hE => RZ.nextOf_tuple_end hh st.1 st.2 (by simp) hE
abbrev enumO (i : Addr) : Obj := { cls := .type "enumerate", data := .fields #[.none, .bool false, .ref i, rawInt 0, .none, .none] }
section
open AutoSeq1 (wpAny_loadPart')
theorem meets_enum_tup (l : Addr) (xs : Array Value) (n : Nat) (dct : Option Addr) (sl : Array (Option Value)) :
    Meets (Builtin.«enumerate.__new__» ⟨[.type "enumerate", .ref l], []⟩) (fun _ R s =>
      s.heap.get? l = some { cls := .type "tuple", dict := dct, data := .seq xs n, slots := sl } ∧
      R (.ok (.ret (.ref (s.heap.push { cls := .type "tuple_iterator", data := .fields #[.ref l, .int 0 0] }).objs.size)))
        { s with heap := (s.heap.push { cls := .type "tuple_iterator", data := .fields #[.ref l, .int 0 0] }).push (enumO s.heap.objs.size) }) :=
  .of_wp fun prog w A R s h => by
    obtain ⟨u, g, d, tk, os⟩ := s
    obtain ⟨hl, h⟩ := h
    have hsub := sub_enumerate
    have hL : Heap.IsTuple (Shared.heap ⟨u, g, d, tk, os⟩) l xs := ⟨_, hl, rfl, n, rfl⟩
    wp_walk using wpAny_loadPart' hl
    refine wpAny_stack_any fun st => wpAny_pure ?_
    split
    · rename_i c _ _ _ _ _
      cases (c == Value.type "enumerate") <;>
        (wp_walk using wpAny_loadPart' hl, wpAny_pyIter_tuple hL; exact ⟨_, rfl, h⟩)
    · (wp_walk using wpAny_loadPart' hl, wpAny_pyIter_tuple hL); exact ⟨_, rfl, h⟩
end
section
variable {prog : Program} {w : World} {A : Around} {E : Value → Shared → Prop} {s : Shared}
theorem call_enum_tup {l : Addr} {xs : Array Value} {Q : Value → Shared → Prop} (ht : s.heap.IsTuple l xs)
    (h : ∀ h', IsEnum h' (s.heap.objs.size + 1) s.heap.objs.size 0 .none → h'.IsTupleIter s.heap.objs.size l 0 →
      (∀ b o, s.heap.get? b = some o → h'.get? b = some o) → Q (.ref (s.heap.objs.size + 1)) { s with heap := h' }) :
    wpAny (model prog w) A (call (.type "enumerate") [.ref l]) Q E s := by
  obtain ⟨⟨c, dct, dt, sl⟩, hl, hc, n, hd⟩ := ht
  replace hc : c = .type "tuple" := hc
  replace hd : dt = .seq xs n := hd
  subst hc hd
  refine callType_new F.called_enumerate (by decide) (F.typeCall_enumerate_1 _) (F.newCall_enumerate_1 _)
    (fun obj => F.args_object_init_2 obj _) F.entry_enumerate_new (meets_enum_tup l xs n dct sl) ⟨hl, ?_⟩
  have one : (s.heap.push { cls := .type "tuple_iterator", data := .fields #[.ref l, .int 0 0] }).objs.size = s.heap.objs.size + 1 := Heap.size_push ..
  show _ ∧ _
  rw [one]
  have he : IsEnum ((s.heap.push { cls := .type "tuple_iterator", data := .fields #[.ref l, .int 0 0] }).push (enumO s.heap.objs.size))
      (s.heap.objs.size + 1) s.heap.objs.size 0 .none := by
    have q := Heap.get?_push_size (s.heap.push { cls := .type "tuple_iterator", data := .fields #[.ref l, .int 0 0] })
      (o := enumO s.heap.objs.size) rfl
    rw [one] at q
    exact q
  exact ⟨⟨_, he, rfl⟩, h _ he ⟨_, Heap.get?_push_of_some _ (Heap.get?_push_size _ rfl), rfl, rfl⟩
    fun b o x => Heap.get?_push_of_some _ (Heap.get?_push_of_some _ x)⟩
end
section
variable {prog : Program} {w : World} {A : Around} {E : Value → Shared → Prop} {s : Shared}
theorem enum_tup_end {e it l : Addr} {xs : Array Value} {i : Nat} {k : Int} {old : Value} {Q : Option Value → Shared → Prop} (hh : A.handled = none)
    (he : IsEnum s.heap e it k old) (hit : s.heap.IsTupleIter it l i) (hl : s.heap.IsTuple l xs) (hx : xs[i]? = none)
    (q : ∀ h', Heap.ExtBut it s.heap h' → Q none { s with heap := h' }) : wpAny (model prog w) A (pyNext (.ref e)) Q E s := by
  have ty : s.TypeIs (.ref e) "enumerate" := ⟨_, he, rfl⟩
  unfold pyNext
  refine wpAny_bind (wpAny_attempt (wpAny_callSpecial?_slot (name := Str.ofString "__next__") ty F.slot_enumerate_next
    (wpAny_call_entry F.slot_enumerate_next ty F.entry_enumerate_next ?_ (F.args_enumerate_next_1 _))))
  show wpAny (model prog w) _ (field (.ref e) 2 >>= _) _ _ s
  refine wpAny_bind (wpAny_field he rfl (x := .ref it) rfl ?_)
  refine wpAny_bind (RZ.nextOf_tuple_end hh hit hl hx fun h' x hb hx => ?_)
  obtain ⟨o, ho, hc⟩ := hx
  refine wpAny_bind (wpAny_isInstance (T := "StopIteration") (b := true) ⟨o, ho, hc⟩ isSubtype_stop ?_)
  exact wpAny_pure (q _ hb)
end
/-- the tuple at a, each item in a new pair -/
def IteT (K : PySem.W.Frag) (a : Addr) : It :=
  ⟨fun i H => ∃ (xs : List V) (x : V), SqT K H a xs ∧ xs[i]? = some x,
   fun i H v H' => ∃ T x, v = .ref T ∧ H T = none ∧ H' = upd H T (.tup [.int (i : Nat), x]) ∧ ∀ xs, SqT K H a xs → xs[i]? = some x,
   fun i H => ∃ xs : List V, SqT K H a xs ∧ xs.length ≤ i⟩
theorem turn_enumT {P : Program} {w : World} {K : PySem.W.Frag} {elts : List Expr} {kk : Nat} {tpos : Pos} (a e it : Addr) (hai : a ≠ it) (hae : e ≠ a) :
    Turn P w K (.Tuple elts kk tpos) (IteT K a) [e, it] e
      (fun i h => (∃ old, IsEnum h e it ((i : Nat) : Int) old) ∧ h.IsTupleIter it a i ∧ e ≠ it) where
  mem := by simp
  obj := fun i h st b hb => by
    obtain ⟨⟨old, he⟩, ⟨o, ho, hc, hd⟩, _⟩ := st
    rcases (show b = e ∨ b = it by simpa using hb) with z | z
    · subst z
      exact ⟨_, he, fun v q => nomatch q⟩
    · subst z
      exact ⟨o, ho, fun v q => by rw [hd] at q; cases q⟩
  keep := fun i h h' st k =>
    let ⟨⟨old, he⟩, hi, hne⟩ := st
    ⟨⟨old, k e (by simp) _ he⟩, hi.at fun o q => k it (by simp) o q, hne⟩
  item := by
    intro X hP hw hK hc i pins s σ H E I hf st hg
    subst hP hw hK
    obtain ⟨⟨old, he⟩, hit, hne⟩ := st
    obtain ⟨xs, x, hq, hx⟩ := hg
    obtain ⟨its, rv, p, hz⟩ := I.tuple hq
    obtain ⟨u, hu, ru⟩ := rv.get hx
    have le : e < s.heap.objs.size := Heap.lt_size he
    have li : it < s.heap.objs.size := by
      obtain ⟨_, q, _⟩ := hit
      exact Heap.lt_size q
    have lt : i < its.toArray.size := by
      have q := (List.getElem?_eq_some_iff.mp hu).1
      simpa using q
    refine wpAny_pyNext_enum_itemD (Draws.tup (A := X.A.in1) (I.ok.hd hc) it a hai its.toArray) he ⟨hit, p⟩ lt hne (by simp [hne, hae])
      fun y h' tk hy ho st' hT hsz hk => ?_
    obtain rfl : y = u := by
      have q : its.toArray[i]? = some y := hy
      have q2 : its.toArray[i]? = some u := by simpa using hu
      exact Option.some.inj (q.symm.trans q2)
    refine ⟨_, rfl, wpAny_letOwnedTupleGo_enum (s := { s with heap := h', toks := tk + 1 }) ho fun h'' he' sb => ?_⟩
    have hT2 : h''.get? s.heap.objs.size = some { cls := .type "tuple", data := .seq #[.int i tk, y] } :=
      (sb.2 _ (Nat.ne_of_gt le)).trans hT
    have new : ObjOk X.prog X.w (upd H s.heap.objs.size (.tup [.int (i : Nat), x])) h'' s.heap.objs.size (.tup [.int (i : Nat), x]) :=
      ⟨by show 2 ≤ sizeLine; decide, [.int i tk, y], .cons ⟨_, rfl⟩ (.cons ru .nil), ⟨_, hT2, rfl, _, rfl⟩⟩
    have I1 : Inv X pins σ (upd H s.heap.objs.size (.tup [.int (i : Nat), x])) { s with heap := h'', toks := tk + 1 } :=
      I.turnedNew (ch := [e, it]) (fun b ob hb q => (sb.2 b (fun z => hb (by simp [z]))).trans
        (hk b ob (fun z => hb (by simp [z])) (fun z => hb (by simp [z])) q)) hf (Nat.le_refl _) new
    refine ⟨.ref s.heap.objs.size, _, I1, rfl, ⟨_, x, rfl, I.hok.fresh (Nat.le_refl _), rfl, fun ys hy => ?_⟩,
      ⟨⟨y, ?_⟩, st'.1.at fun o q => (sb.2 it (Ne.symm hne)).trans q, hne⟩, fun b hb => ?_⟩
    · rw [I.tuple_inj hy hq]
      exact hx
    · have e1 : ((i + 1 : Nat) : Int) = (i : Int) + 1 := by omega
      rw [e1]
      exact he'
    · have lb : b < s.heap.objs.size := by
        rcases (show b = e ∨ b = it by simpa using hb) with z | z
        · rw [z]; exact le
        · rw [z]; exact li
      rw [upd_ne (Nat.ne_of_lt lb)]
      exact (hf b hb).1
  done := by
    intro X hP hw hK hc i pins s σ H E I hf st hg
    subst hP hw hK
    obtain ⟨⟨old, he⟩, hit, hne⟩ := st
    obtain ⟨xs, hq, hx⟩ := hg
    obtain ⟨its, rv, p, hz⟩ := I.tuple hq
    obtain ⟨f0, f1, f2, f3, f4, f5⟩ := hf it (by simp)
    have hl := rv.length
    exact enum_tup_end (I.ok.hd hc) he hit p (by simp; omega) fun h' eb => ⟨rfl, I.turned (t' := s.toks) (fun b o hb q => eb b o hb q) f0 f1 f3 f4 f5⟩
  self := fun A i s Q E st h => let ⟨⟨_, he⟩, _⟩ := st; wpAny_pyIter_enum he h

/-- enumerate(x), x a list or a tuple -/
def iEnumA (K : PySem.W.Frag) (ta : TA) : TI := fun σ H R => ta σ H fun vs H1 => ∃ a xs, vs = [.ref a] ∧ ((SqL K H1 a xs ∧ R (Ite K a) H1) ∨ (SqT K H1 a xs ∧ R (IteT K a) H1))
theorem pi_enumA {X : Cx} {K : PySem.W.Frag} (hK : X.K = K) {e : Expr} {ta : TA} {p pos tpos : Pos} {elts : List Expr} {kk : Nat} (hg : Gl X "enumerate") (hm : X.mg "enumerate" = none)
    (ha : PA X [e] ta) (hs : starEach [e] X.env = [(false, eval e X.env)] := by rfl) :
    PI X (.Tuple elts kk tpos) (.Call (.Name "enumerate" p) [e] [] pos) (iEnumA K ta) := by
  subst hK
  refine ⟨fun pins s σ H R I h => ?_⟩
  refine Call_ (ld_blt I hg hm boot_enumerate (callWith_type1 (thn (ha.run pos pins s σ H _ I h) fun us s1 hh => ?_) hs rfl))
  obtain ⟨vs, H1, I1, r1, a, xs, ex, hq⟩ := hh
  subst ex
  cases r1 with
  | cons r rr =>
    cases rr
    cases r
    have fp : ∀ b ∈ [s1.heap.objs.size + 1, s1.heap.objs.size], FpOk X pins H1 b := fun b hb => by
      have le : s1.heap.objs.size ≤ b := by
        rcases (show b = s1.heap.objs.size + 1 ∨ b = s1.heap.objs.size by simpa using hb) with z | z
        · rw [z]; exact Nat.le_succ _
        · rw [z]; exact Nat.le_refl _
      exact I1.fpOk le (I1.hok.fresh le)
    rcases hq with ⟨hq, q⟩ | ⟨hq, q⟩
    · obtain ⟨its, rv, p', hz⟩ := I1.list hq
      refine call_enumerate_list p'.isList fun h' he hit hsz hk => wpAny_pyIter_enum he ?_
      exact ⟨s1.heap.objs.size + 1, [s1.heap.objs.size + 1, s1.heap.objs.size], _, _, H1, rfl, I1.kept (t' := s1.toks) hk,
        turn_enum a (s1.heap.objs.size + 1) s1.heap.objs.size, ⟨⟨.none, he⟩, hit, Nat.succ_ne_self _⟩, fp, q⟩
    · obtain ⟨its, rv, p', hz⟩ := I1.tuple hq
      obtain ⟨o, ho, _⟩ := id p'
      have la : a < s1.heap.objs.size := Heap.lt_size ho
      refine call_enum_tup (show s1.heap.IsTuple a its.toArray from p') fun h' he hit hk => wpAny_pyIter_enum he ?_
      exact ⟨s1.heap.objs.size + 1, [s1.heap.objs.size + 1, s1.heap.objs.size], _, _, H1, rfl, I1.kept (t' := s1.toks) hk,
        turn_enumT a (s1.heap.objs.size + 1) s1.heap.objs.size (Nat.ne_of_lt la) (Nat.ne_of_gt (Nat.lt_succ_of_lt la)), ⟨⟨.none, he⟩, hit, Nat.succ_ne_self _⟩, fp, q⟩
section
variable {K : PySem.W.Frag} {a b : Addr} {xs ys : List V}
end
/-! ### one walk or the other -/
def iOr (w1 w2 : TI) : TI := fun σ H R => w1 σ H R ∨ w2 σ H R
theorem PI.or {X : Cx} {tg e : Expr} {w1 w2 : TI} (h1 : PI X tg e w1) (h2 : PI X tg e w2) : PI X tg e (iOr w1 w2) :=
  ⟨fun pins s σ H R I h => h.elim (h1.run pins s σ H R I) (h2.run pins s σ H R I)⟩
theorem pi_seq {X : Cx} {K : PySem.W.Frag} {tg e : Expr} {te : TE} (hK : X.K = K) (he : PE X e te) : PI X tg e (iOr (iList K te) (iTup K te)) := by
  subst hK
  exact PI.or (pi_list he) (pi_tup he)
theorem pi_tupK {X : Cx} {K : PySem.W.Frag} {tg e : Expr} {te : TE} (hK : X.K = K) (he : PE X e te) : PI X tg e (iTup K te) := by subst hK; exact pi_tup he
theorem pi_zipK {X : Cx} {K : PySem.W.Frag} {e e2 : Expr} {ta : TA} {p pos tpos : Pos} {elts : List Expr} {kk : Nat} (hK : X.K = K) (hg : Gl X "zip") (hm : X.mg "zip" = none) (ha : PA X [e, e2] ta)
    (hs : starEach [e, e2] X.env = (false, eval e X.env) :: starEach [e2] X.env := by rfl) (hpl : (backTo pos (starEach [e2] X.env)).any (·.1) = false := by rfl) :
    PI X (.Tuple elts kk tpos) (.Call (.Name "zip" p) [e, e2] [] pos) (RZ.iZipA K ta) := by
  subst hK
  exact RZ.pi_zipA hg hm ha hs hpl
theorem pg_tupK {X : Cx} {K : PySem.W.Frag} {pos : Pos} {es : List Expr} {k : Nat} {t : TGs} {n : Nat} (hK : X.K = K) (hc : X.calm = true) (h : PGs X es t)
    (hn : (assignEach es X.env).length = n := by rfl) (hst : (assignEach es X.env).findIdx? (·.1) = none := by rfl) : PG X (.Tuple es k pos) (gTup K n t) := by
  subst hK
  exact pg_tup hc h hn hst
end PC

set_option Elab.async false
set_option linter.all false
set_option maxRecDepth 100000
set_option maxHeartbeats 2000000
/-! PcG: steps of the readings of PcE and PcF. -/
namespace PC
open PySem PySem.Spec PyProof.Rows L2

section
variable {X : Cx} {K : PySem.W.Frag} {o e : Expr} {es : List Expr} {to : TE} {t : TA} {name : Str} {apos cpos : Pos} {T id : String} {r : V → List V → Hp → VK → Prop}
end
section
variable {σ : L2.St} {H : Hp} {Q : VK} {D : Ends} {K : PySem.W.Frag} {p a : Addr} {Z : List Addr} {x v : V} {d : PyData} {xs : List V} {to te : TE} {t : TA} {T : String} {r : V → List V → Hp → VK → Prop}
theorem s_bm (q : to σ H fun x H1 => tyV K T x H1 ∧ t σ H1 fun xs H2 => r x xs H2 Q) : tBM K T r to t σ H Q := q
theorem s_bm0 (q : to σ H fun x H1 => tyV K T x H1 ∧ r x [] H1 Q) : tBM0 K T r to σ H Q := q
/-- isinstance(x, (list, tuple)) -/
theorem s_isiLT (hx : Dat K Z H d x) (hT : H a = some (.tup [.ty "list", .ty "tuple"])) (q : Q (.bl (isD d "list" || isD d "tuple")) H) : rIsiT K [x, .ref a] H Q := by
  refine ⟨x, a, _, _, [.type "list", .type "tuple"], _, rfl, hT, .cons (.ty _) (.cons (.ty _) .nil), hx.ty, ?_, q⟩
  have k1 := kit_ty (K := K) (kit_isD d (T := "list") (by simp))
  have k2 := kit_ty (K := K) (kit_isD d (T := "tuple") (by simp))
  unfold PySem.W.kitAny
  rw [k1]
  cases isD d "list" with
  | true => rfl
  | false =>
    show PySem.W.kitAny K _ _ = _
    unfold PySem.W.kitAny
    rw [k2]
    cases isD d "tuple" <;> rfl
theorem s_iZip {ta : TA} {RI : It → Hp → Prop} (q : ta σ H fun vs H1 => ∃ a b xs ys, vs = [.ref a, .ref b] ∧ ((SqL K H1 a xs ∧ SqL K H1 b ys ∧ RI (Itz K a b) H1) ∨ (SqT K H1 a xs ∧ SqT K H1 b ys ∧ RI (RZ.ItzT K a b) H1))) : RZ.iZipA K ta σ H RI := q
theorem s_lstRg {tr : L2.St → Hp → (Int → Int → Hp → Prop) → Prop} (q : tr σ H fun a b H1 => RgOk a b ∧ ∀ q, H1 q = none → Q (.ref q) (upd H1 q (.lst (rgV a b)))) : tLstRg tr σ H Q := q
theorem s_rg1 {ta : TE} {QR : Int → Int → Hp → Prop} (q : ta σ H fun x H1 => ∃ n, x = .int n ∧ QR 0 n H1) : tRg1 ta σ H QR := q
theorem s_rg2 {ta tb : TE} {QR : Int → Int → Hp → Prop} (q : ta σ H fun x H1 => tb σ H1 fun y H2 => ∃ i j, x = .int i ∧ y = .int j ∧ QR i j H2) : tRg2 ta tb σ H QR := q
/-- raise -/
theorem s_raise {C : Addr} {f : Str} {fs : List Str} {ta : TA} {QX : XK} (q : ta σ H fun vs H1 => ∃ v ws, vs = v :: ws ∧ ws.length = fs.length ∧
    ∀ d, H1 d = none → QX (.ref C) (some d) (upd H1 d (.xd ((fs.zip ws).reverse ++ [(f, v)])))) : tErr C f fs ta σ H QX := q
/-- the field of the error that the suite holds -/
theorem s_xf {cls : Value} {dd : Option Addr} {C : Addr} {f : Str} (q : te σ H fun x H1 => x = .ref a ∧ cls = .ref C ∧
    ∃ (b : Addr) (fs : List (Str × V)) (v : V), dd = some b ∧ H1 b = some (.xd fs) ∧ fs.lookup f = some v ∧ Q v H1) : tXf a cls dd C f te σ H Q := q
end

/-! ### sequences of either kind, walked -/
def seqD : PyData → Option (List PyData)
  | .list ds => some ds
  | .tuple ds => some ds
  | _ => none
section
variable {σ : L2.St} {H : Hp} {Q : VK} {K : PySem.W.Frag} {p a : Addr} {Z : List Addr} {x v : V} {d : PyData} {ds : List PyData} {xs : List V} {RI : It → Hp → Prop}
theorem Dat.seq (h : Dat K Z H d x) (hs : seqD d = some ds) : ∃ a xs, x = .ref a ∧ DatL K Z H ds xs ∧
    ((SqL K H a xs ∧ ∀ p H', p ∈ Z → R p H H' → SqL K H' a xs) ∨ (SqT K H a xs ∧ ∀ p H', p ∈ Z → R p H H' → SqT K H' a xs)) := by
  cases d with
  | list es =>
    cases hs
    simp only [Dat] at h
    obtain ⟨a, xs, e, n, s, l⟩ := h
    exact ⟨a, xs, e, l, .inl ⟨.inl s, fun p H' hp r => SqL.up r (fun z => n (z ▸ hp)) (.inl s)⟩⟩
  | tuple es =>
    cases hs
    simp only [Dat] at h
    obtain ⟨a, xs, e, n, s, l⟩ := h
    exact ⟨a, xs, e, l, .inr ⟨s, fun p H' hp r => SqT.up r hp n s⟩⟩
  | _ => cases hs
end

/-! ### comprehensions over ints: the new list is new -/
section
variable {J : It} {n : Nat} {G : Hp → Prop} {Y : Nat → Hp → V → Hp → Prop} {K : PySem.W.Frag} {p : Addr} {Z : List Addr} {H : Hp} {Q : VK}
end
/-- the new list at D, filled from the list at L, which is emptied by and by -/
structure Mix (p L D : Addr) (xs : List V) (H H' : Hp) (i : Nat) : Prop where
  step : R p H H'
  ex : ∃ left acc, H' L = some (.lst left) ∧ H' D = some (.lst acc) ∧ acc.length = i ∧ left.length + i = xs.length ∧ (acc ++ left).Perm xs
end PC

set_option Elab.async false
set_option linter.all false
set_option maxRecDepth 100000
set_option maxHeartbeats 2000000
/-! PcH: instances: made, their methods called, len, repr, str of them. -/
namespace PC
open PySem PySem.Spec PyProof.Rows L2

theorem under_guards {K : PySem.W.Frag} {base : Heap} {A : Around} {C : Addr} {us : List Value} {kw : List (Str × Value)} (hg : GOkA K A base) :
    GOkA K (A.under (.builtin "type.__call__" ⟨.ref C :: us, kw⟩)) base := by
  obtain ⟨gs, e, h⟩ := hg
  refine ⟨gs, ?_, h⟩
  first
  | exact e
  | simp [Around.under, Code.weight, Code.isCreation, Code.isGuard, Code.isCaller, Code.frames, Code.isFrame, guardIds, e]

section
variable {X : Cx} {k : Nat} {f C : Addr} {fd : FuncData} {ps ks : List Str} {sp : Sp} {dvs : List V} {ds : List Value} {W : WX}
/-- what a call may leave -/
def OutP (X : Cx) (pins : List (Addr × Obj)) (σ : L2.St) (Q : VK) : Result → Shared → Prop
  | .ok (.ret v), s' => EP X pins σ Q v s'
  | .ok _, _ => False
  | .error e, s' => X.xe e s'
/-- what a call that may raise leaves, told for the context it stands in -/
theorem out_of {pins : List (Addr × Obj)} {σ : L2.St} {H : Hp} {s : Shared} {Q : VK} (I : Inv X pins σ H s) (tk : Takes X W) {r : Result} {s' : Shared}
    (hq : CR (L2.CX X.prog X.w) X.stack X.prog X.w H s Q (fun cls d H => W cls d σ H) r s') :
    OutP X pins σ Q r s' := by
  match r, hq with
  | .error e, hq => exact tk e s' (XE.of_call I (fun _ _ _ h => h) hq)
  | .ok (.ret u), hq => exact I.after hq
  | .ok .next, hq => exact hq.elim
  | .ok .brk, hq => exact hq.elim
  | .ok .cont, hq => exact hq.elim
/-- C(..), C a class with a plain dict and a def __init__ -/
def mkSp (C : Addr) (sp : Sp) (dvs : List V) (W : WX) : L2.St → List V → Hp → VK → Prop := fun σ vs H Q => ∀ x dx, H x = none → H dx = none → dx ≠ x →
  sp (.ref x :: (vs ++ dvs)) (upd (upd H dx (.own x)) x (.ins C dx [])) (fun v H2 => v = .non ∧ Q (.ref x) H2) (fun cls d H => W cls d σ H)
theorem FnG.make (F : FnG X.prog X.w X.K X.mg X.base k f fd ps sp) (M : Mk X.K C f) (hg : GOk X) (hr : Room (k + 1) X.A)
    (hb : Binds X.K fd ps ds) (hd : Vals dvs ds) (tk : Takes X W) : CallS X (.ref C) (mkSp C sp dvs W) := by
  intro pins s σ H vs us Q I r h
  have hq := h (s.heap.objs.size + 1) s.heap.objs.size (I.hok.fresh (Nat.le_succ _)) (I.hok.fresh (Nat.le_refl _)) (Nat.ne_of_lt (Nat.lt_succ_self _))
  have I2 := Inv.made (C := C) I
  have r2 : Vals (V.ref (s.heap.objs.size + 1) :: (vs ++ dvs)) (Value.ref (s.heap.objs.size + 1) :: (us ++ ds)) := .cons rfl (r.append hd)
  have hl : (Value.ref (s.heap.objs.size + 1) :: us ++ ds).length = ps.length := by
    have e := r2.length
    rw [F.len _ _ _ _ hq] at e
    exact e.symm
  refine wpAny_call (make_map (f := f) I.kIn M.makes M.init (beq_iff_eq.mp M.fn) (codeAny_mono
    (F.run _ X.stack _ _ ⟨Value.ref (s.heap.objs.size + 1) :: us, []⟩ _ _ _ _ (under_guards hg) (hr.make C us []) (I2.env0.make C us [])
      (hb _ (Value.ref (s.heap.objs.size + 1) :: us) I2.kIn hl) r2 hq) fun r s' hq' => ?_))
  have o := out_of I2 tk hq'
  clear hq'
  match r, o with
  | .error e, o => exact o
  | .ok (.ret u), o =>
    obtain ⟨v, H', I3, rv, ev, q3⟩ := o
    subst ev
    exact ⟨rv, ⟨V.ref (s.heap.objs.size + 1), H', I3, rfl, q3⟩⟩
  | .ok .next, o => exact o.elim
  | .ok .brk, o => exact o.elim
  | .ok .cont, o => exact o.elim
def mkSpK (C : Addr) (sp : Sp) (gV : List V → List V → List V) (W : WX) : L2.St → List V → List V → Hp → VK → Prop := fun σ vs zs H Q => ∀ x dx, H x = none → H dx = none → dx ≠ x →
  sp (gV (.ref x :: vs) zs) (upd (upd H dx (.own x)) x (.ins C dx [])) (fun v H2 => v = .non ∧ Q (.ref x) H2) (fun cls d H => W cls d σ H)
theorem FnG.makeK {g : List Value → List Value → List Value} {gV : List V → List V → List V}
    (F : FnG X.prog X.w X.K X.mg X.base k f fd ps sp) (M : Mk X.K C f) (hg : GOk X) (hr : Room (k + 1) X.A)
    (hb : KBinds X.K fd ps ks g gV) (tk : Takes X W) : CallKS X (.ref C) ks (mkSpK C sp gV W) := by
  intro pins s σ H vs zs us ws Q I r rz h
  have hq := h (s.heap.objs.size + 1) s.heap.objs.size (I.hok.fresh (Nat.le_succ _)) (I.hok.fresh (Nat.le_refl _)) (Nat.ne_of_lt (Nat.lt_succ_self _))
  have I2 := Inv.made (C := C) I
  have r2 := hb.rel (vs := .ref (s.heap.objs.size + 1) :: vs) (us := .ref (s.heap.objs.size + 1) :: us) (.cons rfl r) rz
  have hl : (g (Value.ref (s.heap.objs.size + 1) :: us) ws).length = ps.length := by
    rw [← r2.length]
    exact F.len _ _ _ _ hq
  refine wpAny_call (make_map (f := f) I.kIn M.makes M.init (beq_iff_eq.mp M.fn) (codeAny_mono
    (F.run _ X.stack _ _ ⟨Value.ref (s.heap.objs.size + 1) :: us, ks.zip ws⟩ _ _ _ _ (under_guards hg) (hr.make C us (ks.zip ws))
      (I2.env0.make C us (ks.zip ws)) (hb.to _ (Value.ref (s.heap.objs.size + 1) :: us) ws I2.kIn hl) r2 hq) fun r s' hq' => ?_))
  have o := out_of I2 tk hq'
  clear hq'
  match r, o with
  | .error e, o => exact o
  | .ok (.ret u), o =>
    obtain ⟨v, H', I3, rv, ev, q3⟩ := o
    subst ev
    exact ⟨rv, ⟨V.ref (s.heap.objs.size + 1), H', I3, rfl, q3⟩⟩
  | .ok .next, o => exact o.elim
  | .ok .brk, o => exact o.elim
  | .ok .cont, o => exact o.elim
variable {x m : Str} {p pos apos : Pos} {o e : Expr} {es : List Expr} {kws : List Keyword} {to : TE} {t tk : TA}
    {r : L2.St → List V → Hp → VK → Prop} {rk : L2.St → List V → List V → Hp → VK → Prop} {pl : Sem Bool}
/-- o.m(..): the object stands first among the values -/
def tMS (m : Str) (C : Addr) (r : L2.St → List V → Hp → VK → Prop) (to : TE) (t : TA) : TE := fun σ H Q => to σ H fun x H1 =>
  ∃ a dx fs, x = .ref a ∧ H1 a = some (.ins C dx fs) ∧ fs.lookup m = none ∧ t σ H1 fun vs H2 => r σ (x :: vs) H2 Q
def tMKS (m : Str) (C : Addr) (r : L2.St → List V → List V → Hp → VK → Prop) (to : TE) (t tk : TA) : TE := fun σ H Q => to σ H fun x H1 =>
  ∃ a dx fs, x = .ref a ∧ H1 a = some (.ins C dx fs) ∧ fs.lookup m = none ∧ t σ H1 fun vs H2 => tk σ H2 fun zs H3 => r σ (x :: vs) zs H3 Q
theorem pe_mS0 (c : CallS X (.ref f) r) (cl : Cls X.K C) (hm : Meth X.K C m f) (ho : PE X o to)
    (ht : eval (.Call (.Attribute o m apos) [] [] pos) X.env = (do
      let ov ← eval o X.env
      standAt apos.atName
      let (f, first) ← holding [ov] (getMethod ov m pl)
      callWith pos f first (backTo pos (starEach [] X.env)) (backToKw pos (keywordEach [] X.env))) := by rfl) :
    PE X (.Call (.Attribute o m apos) [] [] pos) (tMS m C r to tNil) := by
  refine ⟨fun pins s σ H Q I h => PySem.W.methodCall_KW (pl := pl) (thn (ho.run pins s σ H _ I h) fun u s1 hh => ?_) ht⟩
  obtain ⟨x, H1, I1, rx, a, dx, fs, ex, ea, l, q⟩ := hh
  subst ex
  obtain rfl : u = Value.ref a := rx
  refine getmeth_ok I1 ea cl hm l ?_
  exact PySem.W.callWith_K0 (first := [.ref a]) I1.kIn hm.kp (c pins s1 σ H1 [.ref a] [.ref a] Q I1 (.cons rfl .nil) q)
end

/-! ### len(o), repr(o), str(o) by the program's own defs -/
section
variable {X : Cx} {k : Nat} {f C : Addr} {fd : FuncData} {ps : List Str} {sp : Sp}
/-- the def at f, called with the object alone, one unit deeper -/
theorem FnG.own (F : FnG X.prog X.w X.K X.mg X.base k f fd ps sp) (hg : GOk X) {A : Around} (hgA : GOkA X.K A X.base) (hr : Room k A)
    (hb : Binds X.K fd ps []) {pins : List (Addr × Obj)} {σ : L2.St} {H : Hp} {s : Shared} {a : Addr} {Q : VK} (I : Inv X pins σ H s)
    (he : Env0 X.prog X.w X.K X.mg X.base A X.stack s H) (h : sp [.ref a] H Q E0) :
    wpAny (model X.prog X.w) A (call (.ref f) [.ref a]) (EP X pins σ Q) X.xe s := by
  have hl : ([Value.ref a] ++ []).length = ps.length := by
    rw [F.len _ _ _ _ h |>.symm]
    rfl
  refine wpAny_call (codeAny_mono (F.run A X.stack s H ⟨[.ref a], []⟩ [.ref a] [.ref a] Q E0 hgA hr he (hb s [.ref a] I.kIn hl) (.cons rfl .nil) h) fun r s' hq => ?_)
  match r, hq with
  | .error e, hq => exact passN pins σ H s e s' I hq
  | .ok (.ret u), hq => exact I.after hq
  | .ok .next, hq => exact hq.elim
  | .ok .brk, hq => exact hq.elim
  | .ok .cont, hq => exact hq.elim
end

section
variable {X : Cx} {K : PySem.W.Frag} {f : Value} {ks : List Str}
theorem CallR.S {r : List V → Hp → VK → Prop} (c : CallR X f r) : CallS X f (fun _ => r) := fun pins s σ H vs us Q I rv h => c pins s σ H vs us Q I rv h
theorem CallKR.S {r : List V → List V → Hp → VK → Prop} (c : CallKR X f ks r) : CallKS X f ks (fun _ => r) :=
  fun pins s σ H vs zs us ws Q I rv rz h => c pins s σ H vs zs us ws Q I rv rz h
variable {o e value : Expr} {g : Str} {pos pos' : Pos} {ta tv : TE}
theorem pe_fldK (hK : X.K = K) (he : PE X e ta) (hb : attributeBase e g X.env (eval e X.env) = eval e X.env := by rfl) : PE X (.Attribute e g pos) (tFld K ta g) := by
  subst hK
  exact pe_fld he hb
theorem ps_fldK (hK : X.K = K) (ha : PE X o ta) (hv : PE X value tv) (hs : swapsWith value (some (.Attribute o g pos')) pos.line X.env = pure false := by rfl) :
    PS X (.Assign [.Attribute o g pos'] value pos) (sFld K ta tv g) := by
  subst hK
  exact ps_fld ha hv hs
end
section
variable {σ : L2.St} {H : Hp} {Q : VK} {D : Ends} {K : PySem.W.Frag} {a C dx : Addr} {fs : List (Str × V)} {v : V} {m f : Str} {to te ta tv : TE} {t tk : TA}
theorem s_ms {r : L2.St → List V → Hp → VK → Prop} (q : to σ H fun x H1 => ∃ a dx fs, x = .ref a ∧ H1 a = some (.ins C dx fs) ∧ fs.lookup m = none ∧ t σ H1 fun vs H2 => r σ (x :: vs) H2 Q) :
    tMS m C r to t σ H Q := q
theorem s_mks {r : L2.St → List V → List V → Hp → VK → Prop} (q : to σ H fun x H1 => ∃ a dx fs, x = .ref a ∧ H1 a = some (.ins C dx fs) ∧ fs.lookup m = none ∧
    t σ H1 fun vs H2 => tk σ H2 fun zs H3 => r σ (x :: vs) zs H3 Q) : tMKS m C r to t tk σ H Q := q
theorem s_fld (q : ta σ H fun x H1 => ∃ a C dx fs v, x = .ref a ∧ H1 a = some (.ins C dx fs) ∧ Cls K C ∧ NoAttr K C f ∧ fs.lookup f = some v ∧ Q v H1) : tFld K ta f σ H Q := q
theorem s_sfld (q : tv σ H fun y H1 => ta σ H1 fun x H2 => ∃ a C dx fs, x = .ref a ∧ H2 a = some (.ins C dx fs) ∧ Cls K C ∧ NoAttr K C f ∧ fs.length < 1000 ∧ D.nx σ (upd H2 a (.ins C dx (putF f y fs)))) :
    sFld K ta tv f D σ H := q
end
end PC

set_option Elab.async false
set_option linter.all false
set_option maxRecDepth 100000
set_option maxHeartbeats 2000000
/-! PcI: what was shown of an elder heap, told of a later one; more steps. -/
namespace PC
open PySem PySem.Spec PyProof.Rows L2

section
variable {K : PySem.W.Frag} {p a D : Addr} {Z : List Addr} {H H1 H' : Hp} {d : PyData} {v : V} {xs : List V}
theorem Dat.lift (r : R p H H') (m : p ∈ Z) (h : Dat K Z H d v) : Dat K Z H' d v := Dat.up r m d v h
theorem R.ins {C dx : Addr} {fs : List (Str × V)} (r : R p H H') (e : H a = some (.ins C dx fs)) : H' a = some (.ins C dx fs) :=
  r.stay a _ (fun _ z => nomatch z) (fun _ z => nomatch z) e
theorem R.xd {fs : List (Str × V)} (r : R p H H') (e : H a = some (.xd fs)) : H' a = some (.xd fs) :=
  r.stay a _ (fun _ z => nomatch z) (fun _ z => nomatch z) e
theorem R.tup (r : R p H H') (e : H a = some (.tup xs)) : H' a = some (.tup xs) :=
  r.stay a _ (fun _ z => nomatch z) (fun _ z => nomatch z) e
theorem R.lst (r : R p H H') (n : a ≠ p) (e : H a = some (.lst xs)) : H' a = some (.lst xs) := r.keep a _ n e
theorem Wd.neq (w : Wd p Z H) (h : H a = none) : a ≠ p := fun z => w.occ p w.mem (z ▸ h)
theorem Wd.old (w : Wd p Z H) (r : R p H H') (h : H' a = none) : H a = none := R.free r ((w.up r).neq h) h
end
section
variable {K : PySem.W.Frag} {p a b : Addr} {Z : List Addr} {H : Hp} {d : PyData} {v : V} {xs ys : List V}
/-- one list changes -/
theorem put_ne (h : H a = some (.lst xs)) {o : HO} (e : H b = some o) (n : ∀ zs, o ≠ .lst zs) {o' : HO} : upd H a o' b = some o := by
  by_cases z : b = a
  · subst z
    rw [h] at e
    exact absurd (Option.some.inj e).symm (n xs)
  · rw [upd_ne z]
    exact e
theorem Wd.put (w : Wd p Z H) (h : H a = some (.lst xs)) : Wd p Z (upd H a (.lst ys)) := by
  refine ⟨?_, fun c hc => ?_, w.mem⟩
  · obtain ⟨o, u, e⟩ := w.one
    exact ⟨o, u, put_ne h e fun _ z => nomatch z⟩
  · by_cases z : c = a
    · subst z
      rw [upd_same]
      exact fun z => nomatch z
    · rw [upd_ne z]
      exact w.occ c hc
theorem Pot.put (h : Pot p H) (n : a ≠ p) {o' : HO} : Pot p (upd H a o') := by
  obtain ⟨x, y, e, q⟩ := h
  exact ⟨x, y, by rw [upd_ne n.symm]; exact e, q⟩
end
/-! ### comprehensions over int lists with places -/
section
variable {J : It} {n : Nat} {G : Hp → Prop} {K : PySem.W.Frag} {p : Addr} {Z : List Addr} {Q : VK} {fx fy : Nat → Option V} {gi gj : Nat} {te : TE} {tt : TT} {vs : List Nat} {σ : L2.St} {H1 : Hp}
end
/-! ### the outermost steps -/
/-! ### ways that come together again -/
section
variable {X : Cx} {c a b e : Expr} {pos : Pos} {tA : TT} {ta tb te : TE} {st : Stmt} {rest : List Stmt} {t u : TS} {σ : L2.St} {H : Hp} {Q : VK} {D : Ends}
end
/-! ### f-strings -/
section
variable {X : Cx} {σ : L2.St} {H : Hp} {Q : VK} {te : TE} {ts : List TE} {acc : Str}
end
end PC

set_option Elab.async false
set_option linter.all false
set_option maxRecDepth 100000
set_option maxHeartbeats 2000000
/-! PcJ: several except clauses, each with a name; isinstance of the program's own objects. -/
namespace PC
open PySem PySem.Spec PyProof.Rows L2

/-! ### several clauses `except C as n` -/
/-- a clause: its class, the slot of its name, its suite -/
abbrev Clause := Value × Nat × (Addr → Value → Option Addr → TS)
/-- behind a suite the name is gone -/
abbrev goneE (i : Nat) (D : Ends) : Ends := ⟨fun τ G => D.nx (τ.set i none) G, D.rt, fun τ G => D.bk (τ.set i none) G, fun τ G => D.ct (τ.set i none) G⟩
def wCl (K : PySem.W.Frag) (W : WX) (D : Ends) : List Clause → WX
  | [] => W
  | (c, i, t) :: r => fun k d σ H => ∃ b, PySem.W.exmOne K k c = some b ∧
      (b = true → ∀ a, H a = none → t a k d (goneE i D) (σ.set i (some (.ref a))) H) ∧ (b = false → wCl K W D r k d σ H)
inductive ClOk (X : Cx) : List ExceptHandler → List Clause → Prop
  | nil : ClOk X [] []
  | cons {x n : Str} {c : Value} {i : Nat} {t : Addr → Value → Option Addr → TS} {s1 : Stmt} {ss : List Stmt} {p q : Pos} {hs : List ExceptHandler} {l : List Clause}
      (hi : X.N[i]? = some n) (hl : X.env.kindOf n = some .local) (hc : Names X x c)
      (body : ∀ (a : Addr) (o : Obj) (k : Value) (d : Option Addr) (pn : List (Addr × Obj)), Zc k d o → (∃ vs, o.data = .fields vs) → PSs (X.suite a ((a, o) :: pn)) (s1 :: ss) (t a k d))
      (rest : ClOk X hs l) : ClOk X (.ExceptHandler (some (.Name x p)) (some n) (s1 :: ss) q :: hs) ((c, i, t) :: l)
section
variable {X : Cx} {W : WX} {D : Ends}
/-- an object with fields is no frame's -/
theorem far_of {B : Heap} {h : Heap} {st : List Env} {a : Addr} {o : Obj} {vs : Array Value} (ff : h.FunFrames B st) (e : h.get? a = some o) (dd : o.data = .fields vs) : a ∉ frs st := by
  intro m
  obtain ⟨_, o2, e2, bad⟩ := ff.mem m
  rw [e] at e2
  cases e2
  exact bad _ dd
/-- an exception that was caught, shown to the clauses from here on -/
theorem clauses_run (hst : X.stack = X.env :: X.outer) (hfr : X.env.frame = some X.env.locals) (nd : X.N.Nodup) (out : Takes X W)
    {B : Heap} {s0 s1 : Shared} {pins : List (Addr × Obj)} {σ : L2.St} {H : Hp} {a : Addr} {k : Value} {d : Option Addr} (ok : X.Ok) (I : Inv X pins σ H s0)
    (nb : ∀ b o, s0.heap.get? b = some o → b ∉ frs X.stack → B.get? b = some o) (fl : HandSPX.FlyingZ B (X.env :: X.outer) a (Zc k d) s1.heap) (up : s0.heap.UpToSlots s1.heap)
    (na : H a = none) (os : s1.os = s0.os) (ag : AllBare s1.gens) :
    ∀ {hs : List ExceptHandler} {l : List Clause}, ClOk X hs l → wCl X.K W D l k d σ H → wpAny (model X.prog X.w) X.A (handleBy (.ref a) X.env hs) (SP X pins D) X.xe s1 := by
  have J : Inv X pins σ H s1 := I.landed nb fl.1 up os ag
  obtain ⟨o1, _, e1, z1, dd1⟩ := fl.there
  have apart := far_of fl.2.2.1 e1 dd1
  have a1 : a ≠ X.env.locals := fun z => apart (List.mem_filterMap.mpr ⟨_, List.mem_cons_self, z ▸ hfr⟩)
  have a2 : a ∉ X.fs := fun m => by
    obtain ⟨y, hy, ey⟩ := List.mem_filterMap.mp m
    exact apart (List.mem_filterMap.mpr ⟨y, .tail _ hy, ey⟩)
  intro hs l ck
  induction ck with
  | nil =>
    intro wish
    obtain ⟨_, _, _, o2, us, T, _, _, e2, _, dd2, u1, _⟩ := id fl
    refine wpAny_handleBy_nil ?_
    unfold PySem.passOn
    refine wpAny_bind (wpAny_field e2 dd2 u1 ?_)
    rw [if_neg (by simp)]
    have leave : wpAny (model X.prog X.w) X.A (setFlight (.ref a) X.env.frame) (fun _ t => wpAny (model X.prog X.w) X.A (throw (.ref a) : Sem Flow) (SP X pins D) X.xe t) X.xe s1 := by
      rw [hfr]
      refine HandSPX.setFlight_upZ fl fun g held up2 => wpAny_throw (out _ _ ⟨a, B, s0, pins, σ, H, k, d, rfl, I, nb, up.trans up2, ?_, na, os, ag, wish⟩)
      rw [hst]
      exact .inr (.inr held)
    first
      | exact wpAny_bind (wpAny_pure (wpAny_bind leave))
      | exact wpAny_bind leave
  | @cons x n c i t y1 ys p q hs l hi hl hc body _ ih =>
    rintro ⟨b, eb, yes, no⟩
    have V1 := J.suite e1 dd1 na a1 a2
    have known : PySem.W.Looks (model X.prog X.w) s1.heap (typeOf (.ref a)) k := fun A Q E st kp qq => wpAny_typeOf_ref (kp _ _ e1) (by rw [z1.1]; exact qq)
    have asked := PySem.W.exm_one (M := model X.prog X.w) J.kIn known eb
    have named : wpAny (model X.prog X.w) (X.A.mark (some (.ref a))) (eval (.Name x p) X.env) (fun u st => u = c ∧ s1 = st) (fun _ _ => False) s1 := by
      rcases hc with ⟨g, ndb, m | ⟨m, bv, nn⟩⟩
      · exact ld_glob (X := X.suite a ((a, o1) :: (X.pn ++ pins))) V1 g m ⟨rfl, rfl⟩ ndb
      · exact ld_blt (X := X.suite a ((a, o1) :: (X.pn ++ pins))) V1 g m bv ⟨rfl, rfl⟩ nn ndb
    refine wpAny_handleBy_cons (codeAny_handlers_test ?_) (fun w => nomatch w)
    refine wpAny_mono named ?_ fun _ _ w => w.elim
    rintro _ _ ⟨rfl, rfl⟩
    refine asked.here ?_
    cases b with
    | false => exact ih (no rfl)
    | true =>
      refine codeAny_handlers_suite_as (HandSPX.lands_againZ fl fun g fl2 up2 => ?_)
      have J2 : Inv X pins σ H { s1 with heap := g } := I.landed nb fl2.1 (up.trans up2) os ag
      obtain ⟨o2, _, e2, z2, dd2⟩ := fl2.there
      refine store_ok (X := X.suite a ((a, o2) :: (X.pn ++ pins))) (v := .ref a) (J2.suite e2 dd2 na a1 a2) nd hi (.inl hl) rfl (fun t2 S2 => ?_) (.inr hl)
      have drop : ∀ {τ : L2.St} {G : Hp} {t3 : Shared} {R : Shared → Prop}, Inv (X.suite a ((a, o2) :: (X.pn ++ pins))) [] τ G t3 → (∀ t4, Inv X pins (τ.set i none) G t4 → R t4) →
          wpAny (model X.prog X.w) X.A (do bindName X.env n .none; unbindBehindTheSuite X.env n q) (fun _ t4 => R t4) X.xe t3 := fun S hR => gone_ok (S.unsuite ok) nd hi hl hR
      refine wpAny_mono ((body a o2 k d (X.pn ++ pins) z2 ⟨_, dd2⟩).run [] t2 _ H _ S2 (yes rfl a na)) (fun f t3 hf => ?_) fun _ _ w => w.elim
      cases f with
      | next => exact drop hf.choose_spec.choose_spec.1 fun t4 S4 => ⟨_, _, S4, hf.choose_spec.choose_spec.2⟩
      | brk => exact drop hf.choose_spec.choose_spec.1 fun t4 S4 => ⟨_, _, S4, hf.choose_spec.choose_spec.2⟩
      | cont => exact drop hf.choose_spec.choose_spec.1 fun t4 S4 => ⟨_, _, S4, hf.choose_spec.choose_spec.2⟩
      | ret u =>
        obtain ⟨v, τ, G, S3, rv, qq⟩ := hf
        exact drop S3 fun t4 S4 => ⟨v, _, G, S4, rv, qq⟩
/-- try: body / except C as n: .. / except C' as n': .. -/
theorem ps_try_clauses {body : List Stmt} {h0 : ExceptHandler} {hs : List ExceptHandler} {l : List Clause} {pos : Pos} {tb : WX → TS}
    (hst : X.stack = X.env :: X.outer) (hfr : X.env.frame = some X.env.locals) (nd : X.N.Nodup) (out : Takes X W)
    (hb : ∀ (V : WX) (pn : List (Addr × Obj)) (xe : Value → Shared → Prop), Takes (X.tr pn xe) V → PassesOwn (model X.prog X.w) X.A X.env xe → PSs (X.tr pn xe) body (tb V))
    (ck : ClOk X (h0 :: hs) l) : PS X (.Try body (h0 :: hs) [] [] pos) (fun D σ H => tb (wCl X.K W D l) D σ H) := by
  constructor
  intro pins s σ H D I h
  have ok := I.ok
  refine wpAny_Try_except (wpAny_mono ((hb (wCl X.K W D l) (X.pn ++ pins) _ (fun u t fly => ?_) PassesOwn.looking).run [] s σ H D (I.toTry _) h) (fun f t done => ?_) fun _ _ w => w)
  · obtain ⟨a, B, s0, pins0, τ, G, k, d, rfl, I0, nb, up, sky, na, os, ag, wish⟩ := fly
    have sky2 : Sky B (X.env :: X.outer) a (Zc k d) X.env.locals t.heap := hst ▸ sky
    refine Sky.land Zc.steady (ok.frames.trans (by rw [hst])) hfr sky2 fun g fl up2 => ?_
    exact clauses_run hst hfr nd out (B := B) (s0 := s0) (s1 := { t with heap := g }) ok (I0.ofTry ok) nb fl (up.trans up2) na os ag ck wish
  · cases f with
    | next => exact wpAny_execs_nil ⟨_, _, done.choose_spec.choose_spec.1.ofTry ok, done.choose_spec.choose_spec.2⟩
    | brk => exact ⟨_, _, done.choose_spec.choose_spec.1.ofTry ok, done.choose_spec.choose_spec.2⟩
    | cont => exact ⟨_, _, done.choose_spec.choose_spec.1.ofTry ok, done.choose_spec.choose_spec.2⟩
    | ret u =>
      obtain ⟨v, τ, G, J, r, q⟩ := done
      exact ⟨v, τ, G, J.ofTry ok, r, q⟩
end
/-! ### isinstance of the program's own objects -/
structure InstT (K : PySem.W.Frag) (C : Addr) : Prop where
  ca : PySem.W.findIn K (.ref C) "__class__" = some (some (.builtin "object.__class__"))
  ob : PySem.W.mroIn K C (.type "object") = some true
theorem s_isiC {K : PySem.W.Frag} {H : Hp} {Q : VK} {a C dx : Addr} {fs : List (Str × V)} (c : Cls K C) (t : InstT K C) (q0 : ClsQ K) (e : H a = some (.ins C dx fs)) (q : Q (.bl true) H) : rIsi K [.ref a, .ref C] H Q :=
  ⟨.ref a, .ref C, .ref C, .ref C, true, rfl, .own C, .base (.ins e c t.ca q0.get q0.tk t.ob), by unfold PySem.W.kitOne; rw [if_pos (by simp)], q⟩
/-! ### {x!r} of data -/
section
variable {X : Cx}
end
section
variable {σ : L2.St} {H : Hp} {Q : VK} {te : TE} {ts : List TE} {acc : Str} {QS : Str → Hp → Prop}
theorem s_bits (q : te σ H fun x H1 => ∃ i, x = .int i ∧ Q (.int (Builtin.Int.intBits i : Nat)) H1) : tBits te σ H Q := q
end
/-! ### [x for x in xs if ..], ints -/
section
variable {J : It} {n : Nat} {G : Hp → Prop} {K : PySem.W.Frag} {p : Addr} {Z : List Addr} {Q : VK} {gi : Nat} {tt : TT} {te : TE} {vs : List Nat} {σ : L2.St} {H1 : Hp} {ts : List Int}
end
section
variable {K : PySem.W.Frag} {Z : List Addr} {H : Hp} {Q : VK} {x y : V} {d : PyData} {ds : List PyData}
end
theorem R.xdW {p b : Addr} {H H' : Hp} {fs : List (Str × V)} (e : H b = some (.xd fs)) (r : R p H H') : H' b = some (.xd fs) := r.stay b _ (fun _ z => nomatch z) (fun _ z => nomatch z) e
section
variable {K : PySem.W.Frag} {p : Addr} {Z : List Addr} {H : Hp} {x : V} {ds : List PyData} {g : TG} {tt : TT} {te : TE} {vs : List Nat} {σ : L2.St} {Q : VK} {tb : TS} {D : Ends}
end
theorem DatL.at {K : PySem.W.Frag} {Z : List Addr} {H : Hp} {ds : List PyData} {xs : List V} {i : Nat} {d : PyData} {x : V} (l : DatL K Z H ds xs) (hd : ds[i]? = some d) (hx : xs[i]? = some x) : Dat K Z H d x := by
  obtain ⟨v, hv, h⟩ := l.get hd
  rw [hx] at hv
  cases hv
  exact h
/-! ### lists of unlike lengths -/
section
variable {X : Cx} {K : PySem.W.Frag} {H : Hp} {Q : VK} {x y : V} {Z : List Addr} {ds es : List PyData}
end
/-! ### lists and tuples alike -/
section
variable {K : PySem.W.Frag} {p : Addr} {Z : List Addr} {H : Hp} {Q : VK} {x : V} {d : PyData} {ds : List PyData} {ns : List Int}
end
end PC

set_option Elab.async false
set_option linter.all false
set_option maxRecDepth 100000
set_option maxHeartbeats 4000000
/-! PcM: plain laws of cells, masks, bits. -/
namespace PC
open PySem PySem.Spec PyProof.Rows L2
/-- an int, no bool, in the range -/
def intIn : PyData → Int → Int → Bool
  | .int i, lo, hi => decide (lo ≤ i) && decide (i ≤ hi)
  | _, _, _ => false
def intD : PyData → Option Int
  | .int i => some i
  | _ => none
def intsD (ds : List PyData) : List Int := ds.filterMap intD
def areCells (lo hi : Int) (ds : List PyData) : Bool := (ds.all fun d => intIn d lo hi) && decide (intsD ds).Nodup
def isort (ns : List Int) : List Int := ns.mergeSort fun a b => decide (a ≤ b)
/-- the cells, ascending -/
def cellsD (d : PyData) (s : Int) : Option (List Int) :=
  match seqD d with
  | none => none
  | some ds => if areCells 0 (s - 1) ds = true then some (isort (intsD ds)) else none
def tupI (ns : List Int) : PyData := .tuple (ns.map .int)
def lstI (ns : List Int) : PyData := .list (ns.map .int)
theorem intIn_int {d : PyData} {lo hi : Int} (h : intIn d lo hi = true) : ∃ i, d = .int i ∧ lo ≤ i ∧ i ≤ hi := by
  cases d <;> simp [intIn] at h
  exact ⟨_, rfl, h⟩
theorem isort_perm (ns : List Int) : (isort ns).Perm ns := List.mergeSort_perm ns _
theorem isort_le (ns : List Int) : (isort ns).Pairwise (· ≤ ·) := by
  have h := List.pairwise_mergeSort (le := fun a b : Int => decide (a ≤ b)) (by intro a b c; simp; omega) (by intro a b; simp; omega) ns
  exact h.imp fun h => of_decide_eq_true h
theorem isort_is {ns ms : List Int} (p : ms.Perm ns) (h : ms.Pairwise (· ≤ ·)) : ms = isort ns :=
  (p.trans (isort_perm ns).symm).eq_of_pairwise (fun a b _ _ h1 h2 => Int.le_antisymm h1 h2) h (isort_le ns)
theorem intsOf {lo hi : Int} : ∀ {ds : List PyData}, (ds.all fun d => intIn d lo hi) = true → ds = (intsD ds).map .int
  | [], _ => rfl
  | d :: ds, h => by
    rw [List.all_cons, Bool.and_eq_true] at h
    obtain ⟨i, rfl, _⟩ := intIn_int h.1
    show _ = PyData.int i :: (intsD ds).map .int
    rw [← intsOf h.2]
theorem intsD_map (ns : List Int) : intsD (ns.map .int) = ns := by
  induction ns with
  | nil => rfl
  | cons n ns ih => show n :: intsD (ns.map .int) = n :: ns; rw [ih]
/-- neighbours in ascending order that differ: no value twice -/
theorem asc_nodup : ∀ {ns : List Int}, ns.Pairwise (· ≤ ·) → ((ns.zip (ns.drop 1)).all (fun y => decide (y.1 < y.2)) = true ↔ ns.Nodup)
  | [], _ => by simp
  | [a], _ => by simp
  | a :: b :: r, h => by
    have h2 := (List.pairwise_cons.mp h).2
    have ih := asc_nodup h2
    have hab : a ≤ b := (List.pairwise_cons.mp h).1 b List.mem_cons_self
    simp only [List.drop_succ_cons, List.drop_zero] at ih ⊢
    rw [List.zip_cons_cons, List.all_cons, Bool.and_eq_true, ih, List.nodup_cons (a := a), decide_eq_true_eq]
    constructor
    · rintro ⟨h1, h3⟩
      refine ⟨fun m => ?_, h3⟩
      rcases List.mem_cons.mp m with e | e
      · omega
      · have := (List.pairwise_cons.mp h2).1 a e
        omega
    · rintro ⟨h1, h3⟩
      refine ⟨?_, h3⟩
      rcases Int.lt_or_eq_of_le hab with q | q
      · exact q
      · exact absurd (by rw [q]; exact List.mem_cons_self) h1
theorem cellsD_no {d : PyData} {s : Int} (h : (isD d "list" || isD d "tuple") = false) : cellsD d s = none := by
  cases d <;> first | rfl | simp [isD, tyD] at h
theorem seq_yes {d : PyData} (h : (isD d "list" || isD d "tuple") = true) : ∃ ds, seqD d = some ds := by
  cases d <;> simp [isD, tyD] at h <;> exact ⟨_, rfl⟩
theorem cellsD_seq {d : PyData} {s : Int} {ds : List PyData} (h : seqD d = some ds) : cellsD d s = if areCells 0 (s - 1) ds = true then some (isort (intsD ds)) else none := by
  unfold cellsD
  rw [h]
def maskI (ns : List Int) : Int := (ns.map fun n => (1 : Int) * 2 ^ n.toNat).sum
theorem cells_some {d : PyData} {s : Int} {ns : List Int} (e : cellsD d s = some ns) : ∃ ds, seqD d = some ds ∧ areCells 0 (s - 1) ds = true ∧ isort (intsD ds) = ns := by
  cases h : seqD d with
  | none => unfold cellsD at e; rw [h] at e; cases e
  | some ds =>
    rw [cellsD_seq h] at e
    by_cases c : areCells 0 (s - 1) ds = true
    · rw [if_pos c] at e
      exact ⟨ds, rfl, c, Option.some.inj e⟩
    · rw [if_neg c] at e
      cases e
theorem ints_in {lo hi : Int} {ds : List PyData} (h : areCells lo hi ds = true) : ∀ n ∈ intsD ds, lo ≤ n ∧ n ≤ hi := by
  intro n hn
  rw [areCells, Bool.and_eq_true] at h
  have e := intsOf h.1
  have m : PyData.int n ∈ ds := by rw [e]; exact List.mem_map_of_mem hn
  have q := List.all_eq_true.mp h.1 _ m
  obtain ⟨i, e2, h1, h2⟩ := intIn_int q
  cases e2
  exact ⟨h1, h2⟩
/-- what cell_tuple gives: cells in the range, ascending -/
theorem cells_range {d : PyData} {s : Int} {ns : List Int} (e : cellsD d s = some ns) : (∀ n ∈ ns, 0 ≤ n ∧ n < s) ∧ ns.Pairwise (· < ·) := by
  obtain ⟨ds, h, c, rfl⟩ := cells_some e
  refine ⟨fun n hn => ?_, ?_⟩
  · have := ints_in c n ((isort_perm _).mem_iff.mp hn)
    omega
  · have nd : (isort (intsD ds)).Nodup := (isort_perm _).nodup_iff.mpr (of_decide_eq_true (Bool.and_eq_true_iff.mp c).2)
    exact ((isort_le (intsD ds)).and nd).imp fun h => by
      have h1 := h.1
      have h2 := h.2
      omega
theorem cells_len {d : PyData} {s : Int} {ns : List Int} {m : Nat} (e : cellsD d s = some ns) (h : ∀ ds, seqD d = some ds → ds.length ≤ m) : ns.length ≤ m := by
  obtain ⟨ds, hs, c, rfl⟩ := cells_some e
  rw [(isort_perm _).length_eq]
  refine Nat.le_trans ?_ (h ds hs)
  unfold intsD
  exact List.length_filterMap_le _ _
/-- the bits of a mask, ascending -/
def bitsL (m : Nat) : List Int := ((List.range 64).filter fun i => m.testBit i).map fun i => ((i : Nat) : Int)
theorem and_nn (a b : Nat) : Builtin.bitAnd (a : Int) (b : Int) = ((a &&& b : Nat) : Int) := by
  unfold Builtin.bitAnd
  rw [decide_eq_true (Int.natCast_nonneg a), decide_eq_true (Int.natCast_nonneg b)]
  simp
theorem bits_fit {m k : Nat} (h : m < 2 ^ k) : Builtin.Int.intBits (m : Int) ≤ k := PySem.intBits_le_iff.mpr (by simpa using h)
theorem bits_over {m : Nat} : m < 2 ^ Builtin.Int.intBits (m : Int) := by
  have h := (PySem.intBits_le_iff (m := Builtin.Int.intBits (m : Int)) (x := (m : Int))).mp (Nat.le_refl _)
  simpa using h
theorem bit_at (m i : Nat) : decide (Builtin.bitAnd ((m : Int) / 2 ^ i) 1 = 1) = m.testBit i := by
  have e : (m : Int) / 2 ^ i = ((m / 2 ^ i : Nat) : Int) := by
    rw [Int.natCast_ediv, Int.natCast_pow]
    rfl
  rw [e, show (1 : Int) = ((1 : Nat) : Int) from rfl, and_nn, Nat.testBit_eq_decide_div_mod_eq, Nat.and_one_is_mod]
  rw [Bool.eq_iff_iff, decide_eq_true_eq, decide_eq_true_eq]
  omega
theorem filter_bits {m n k : Nat} (h : m < 2 ^ n) (hk : n ≤ k) : (List.range k).filter (fun i => m.testBit i) = (List.range n).filter (fun i => m.testBit i) := by
  obtain ⟨j, rfl⟩ := Nat.exists_eq_add_of_le hk
  rw [List.range_add, List.filter_append]
  have e : ((List.range j).map (n + ·)).filter (fun i => m.testBit i) = [] := by
    rw [List.filter_eq_nil_iff]
    intro i hi
    obtain ⟨q, _, rfl⟩ := List.mem_map.mp hi
    have l : m < 2 ^ (n + q) := Nat.lt_of_lt_of_le h (Nat.pow_le_pow_right (by decide) (Nat.le_add_right _ _))
    rw [Nat.testBit_lt_two_pow l]
    decide
  rw [e, List.append_nil]
theorem maskI_cons (n : Int) (ns : List Int) : maskI (n :: ns) = 2 ^ n.toNat + maskI ns := by
  show 1 * 2 ^ n.toNat + maskI ns = _
  rw [Int.one_mul]
/-- each one less, 0 left out -/
def down (ns : List Int) : List Int := (ns.filter fun n => decide (0 < n)).map fun n => n - 1
theorem maskI_down : ∀ {ns : List Int}, (∀ n ∈ ns, 0 ≤ n) → ns.Nodup → maskI ns = (if (0 : Int) ∈ ns then 1 else 0) + 2 * maskI (down ns)
  | [], _, _ => by simp [maskI, down]
  | n :: ns, h, nd => by
    have ih := maskI_down (ns := ns) (fun m hm => h m (List.mem_cons_of_mem _ hm)) (List.nodup_cons.mp nd).2
    have h0 := h n List.mem_cons_self
    have nn := (List.nodup_cons.mp nd).1
    by_cases c : n = 0
    · subst c
      have e : down (0 :: ns) = down ns := by simp [down]
      rw [maskI_cons, e, ih, if_neg nn, if_pos List.mem_cons_self]
      show (1 : Int) + _ = _
      omega
    · have e : down (n :: ns) = (n - 1) :: down ns := by
        have q : decide (0 < n) = true := decide_eq_true (by omega)
        simp [down, q]
      have m0 : ((0 : Int) ∈ n :: ns) ↔ (0 : Int) ∈ ns := by
        rw [List.mem_cons]
        exact ⟨fun z => z.elim (fun z => absurd z.symm c) id, .inr⟩
      have p : (2 : Int) ^ n.toNat = 2 * 2 ^ (n - 1).toNat := by
        have : n.toNat = (n - 1).toNat + 1 := by omega
        rw [this, Int.pow_succ, Int.mul_comm]
      rw [maskI_cons, e, maskI_cons, ih, p]
      by_cases z : (0 : Int) ∈ ns
      · rw [if_pos z, if_pos (m0.mpr z)]; omega
      · rw [if_neg z, if_neg (fun y => z (m0.mp y))]; omega
theorem down_nodup {ns : List Int} (h : ns.Nodup) : (down ns).Nodup := by
  unfold down
  rw [List.nodup_iff_pairwise_ne, List.pairwise_map]
  exact (List.Pairwise.filter _ h).imp fun h => by omega
theorem down_mem {ns : List Int} {i : Int} (h : 0 ≤ i) : i ∈ down ns ↔ i + 1 ∈ ns := by
  unfold down
  rw [List.mem_map]
  constructor
  · rintro ⟨a, ha, rfl⟩
    have := (List.mem_filter.mp ha).1
    rwa [show a - 1 + 1 = a by omega]
  · intro m
    exact ⟨i + 1, List.mem_filter.mpr ⟨m, decide_eq_true (by omega)⟩, by omega⟩
theorem maskI_nn : ∀ ns : List Int, 0 ≤ maskI ns
  | [] => by decide
  | n :: ns => by
    have := maskI_nn ns
    have h : (0 : Int) < 2 ^ n.toNat := Int.pow_pos (by decide)
    rw [maskI_cons]
    omega
theorem mask_bit : ∀ (i : Nat) {ns : List Int}, (∀ n ∈ ns, 0 ≤ n) → ns.Nodup → (maskI ns).toNat.testBit i = decide ((i : Int) ∈ ns)
  | 0, ns, h, nd => by
    have e := maskI_down h nd
    have p := maskI_nn (down ns)
    rw [Nat.testBit_zero]
    by_cases z : (0 : Int) ∈ ns
    · rw [if_pos z] at e
      have : (maskI ns).toNat % 2 = 1 := by omega
      rw [this]
      simp [z]
    · rw [if_neg z] at e
      have : (maskI ns).toNat % 2 = 0 := by omega
      rw [this]
      simp [z]
  | i + 1, ns, h, nd => by
    have e := maskI_down h nd
    have p := maskI_nn (down ns)
    have ih := mask_bit i (ns := down ns) (fun n hn => by
      obtain ⟨a, ha, rfl⟩ := List.mem_map.mp hn
      have := of_decide_eq_true (List.mem_filter.mp ha).2
      omega) (down_nodup nd)
    have d : (maskI ns).toNat / 2 = (maskI (down ns)).toNat := by
      split at e <;> omega
    rw [Nat.testBit_succ, d, ih]
    rw [Bool.eq_iff_iff, decide_eq_true_eq, decide_eq_true_eq, down_mem (Int.natCast_nonneg i)]
    rw [show ((i + 1 : Nat) : Int) = (i : Int) + 1 by omega]
/-- the bits of a mask that are set are what it was made of -/
theorem bits_of_mask {m : Nat} {ns : List Int} (h : ∀ i < 64, m.testBit i = decide ((i : Int) ∈ ns)) (hr : ∀ n ∈ ns, 0 ≤ n ∧ n < 64) (ha : ns.Pairwise (· < ·)) : bitsL m = ns := by
  have asc : (bitsL m).Pairwise (· < ·) := by
    unfold bitsL
    rw [List.pairwise_map]
    exact (List.pairwise_lt_range.filter _).imp fun h => by omega
  have mem : ∀ x, x ∈ bitsL m ↔ x ∈ ns := by
    intro x
    unfold bitsL
    rw [List.mem_map]
    constructor
    · rintro ⟨i, hi, rfl⟩
      have q := List.mem_filter.mp hi
      rw [h i (List.mem_range.mp q.1)] at q
      exact of_decide_eq_true q.2
    · intro hx
      have := hr x hx
      refine ⟨x.toNat, List.mem_filter.mpr ⟨List.mem_range.mpr (by omega), ?_⟩, by omega⟩
      rw [h _ (by omega)]
      refine decide_eq_true ?_
      rwa [show ((x.toNat : Nat) : Int) = x by omega]
  have pm : (bitsL m).Perm ns := by
    refine (List.perm_ext_iff_of_nodup ?_ ?_).mpr mem
    · exact asc.imp fun h => by omega
    · exact ha.imp fun h => by omega
  exact pm.eq_of_pairwise (fun a b _ _ h1 h2 => by omega) asc ha
theorem mask_bits {m : Nat} (h : m < 2 ^ 64) : (maskI (bitsL m)).toNat = m := by
  apply Nat.eq_of_testBit_eq
  intro i
  have nn : ∀ n ∈ bitsL m, 0 ≤ n := fun n hn => by
    obtain ⟨j, _, rfl⟩ := List.mem_map.mp hn
    omega
  have nd : (bitsL m).Nodup := by
    unfold bitsL
    rw [List.nodup_iff_pairwise_ne, List.pairwise_map]
    exact (List.pairwise_lt_range.filter _).imp fun h => by omega
  rw [mask_bit i nn nd, Bool.eq_iff_iff, decide_eq_true_eq]
  unfold bitsL
  rw [List.mem_map]
  constructor
  · rintro ⟨j, hj, e⟩
    have : j = i := by omega
    subst this
    exact (List.mem_filter.mp hj).2
  · intro t
    refine ⟨i, List.mem_filter.mpr ⟨List.mem_range.mpr ?_, t⟩, rfl⟩
    by_cases c : i < 64
    · exact c
    · have l : m < 2 ^ i := Nat.lt_of_lt_of_le h (Nat.pow_le_pow_right (by decide) (by omega))
      rw [Nat.testBit_lt_two_pow l] at t
      cases t
theorem xor_and_or : ∀ a b : Nat, (a ^^^ b) + (a &&& b) = a ||| b := by
  intro a
  induction a using Nat.strongRecOn with
  | ind a ih =>
    intro b
    by_cases h : a = 0
    · subst h
      simp
    · have i := ih (a / 2) (by omega) (b / 2)
      have x1 := Nat.xor_div_two (a := a) (b := b)
      have x2 := Nat.and_div_two (a := a) (b := b)
      have x3 := Nat.or_div_two (a := a) (b := b)
      have y1 : (a ^^^ b) % 2 = (a % 2 + b % 2) % 2 := by
        have e : (a ^^^ b) % 2 = 1 ↔ ¬ (a % 2 = 1 ↔ b % 2 = 1) := Nat.xor_mod_two_eq_one
        omega
      have y2 : (a &&& b) % 2 = 1 ↔ a % 2 = 1 ∧ b % 2 = 1 := Nat.and_mod_two_eq_one
      have y3 : (a ||| b) % 2 = 1 ↔ a % 2 = 1 ∨ b % 2 = 1 := Nat.or_mod_two_eq_one
      omega
theorem xor_nn (a b : Nat) : Builtin.bitXor (a : Int) (b : Int) = ((a ^^^ b : Nat) : Int) := by
  unfold Builtin.bitXor
  have o : Builtin.bitOr (a : Int) (b : Int) = ((a ||| b : Nat) : Int) := by
    have h := bitOr_nn (Int.natCast_nonneg a) (Int.natCast_nonneg b)
    simpa using h
  rw [o, and_nn]
  have := xor_and_or a b
  omega
theorem or_one {k : Nat} (h : k.testBit 0 = true) : k ||| 1 = k := by
  apply Nat.eq_of_testBit_eq
  intro i
  rw [Nat.testBit_or]
  cases i with
  | zero => rw [h]; rfl
  | succ i => simp [Nat.testBit_succ]
def pop (n : Nat) : Nat := if h : n = 0 then 0 else n % 2 + pop (n / 2)
termination_by n
decreasing_by exact Nat.div_lt_self (Nat.pos_of_ne_zero h) (by decide)
theorem pop_zero : pop 0 = 0 := by rw [pop]; rfl
theorem pop_step (n : Nat) : pop n = n % 2 + pop (n / 2) := by
  by_cases h : n = 0
  · subst h
    rw [pop_zero]
  · rw [pop, dif_neg h]
theorem and_even (q : Nat) (h : 0 < q) : (2 * q) &&& (2 * q - 1) = 2 * (q &&& (q - 1)) := by
  apply Nat.eq_of_testBit_eq
  intro i
  have e : 2 * q - 1 = 2 * (q - 1) + 1 := by omega
  cases i with
  | zero =>
    rw [Nat.testBit_and]
    simp [Nat.testBit_zero]
  | succ i =>
    rw [Nat.testBit_and, Nat.testBit_succ, Nat.testBit_succ, Nat.testBit_succ, e]
    rw [show 2 * q / 2 = q by omega, show (2 * (q - 1) + 1) / 2 = q - 1 by omega, show 2 * (q &&& (q - 1)) / 2 = q &&& (q - 1) by omega, Nat.testBit_and]
theorem and_odd (q : Nat) : (2 * q + 1) &&& (2 * q) = 2 * q := by
  apply Nat.eq_of_testBit_eq
  intro i
  cases i with
  | zero =>
    rw [Nat.testBit_and]
    simp [Nat.testBit_zero]
  | succ i =>
    rw [Nat.testBit_and, Nat.testBit_succ, Nat.testBit_succ]
    rw [show (2 * q + 1) / 2 = q by omega, show 2 * q / 2 = q by omega, Bool.and_self]
theorem pop_less : ∀ (n : Nat), 0 < n → pop (n &&& (n - 1)) + 1 = pop n := by
  intro n
  induction n using Nat.strongRecOn with
  | ind n ih =>
    intro h
    rcases Nat.mod_two_eq_zero_or_one n with e | e
    · have hq : n = 2 * (n / 2) := by omega
      have q0 : 0 < n / 2 := by omega
      have i := ih (n / 2) (by omega) q0
      rw [hq, and_even _ q0, pop_step (2 * (n / 2)), pop_step (2 * (n / 2 &&& (n / 2 - 1)))]
      rw [show 2 * (n / 2) % 2 = 0 by omega, show 2 * (n / 2) / 2 = n / 2 by omega, show 2 * (n / 2 &&& (n / 2 - 1)) % 2 = 0 by omega, show 2 * (n / 2 &&& (n / 2 - 1)) / 2 = (n / 2 &&& (n / 2 - 1)) by omega]
      omega
    · have hq : n = 2 * (n / 2) + 1 := by omega
      rw [hq, show 2 * (n / 2) + 1 - 1 = 2 * (n / 2) by omega, and_odd, pop_step (2 * (n / 2) + 1), pop_step (2 * (n / 2))]
      rw [show 2 * (n / 2) % 2 = 0 by omega, show 2 * (n / 2) / 2 = n / 2 by omega, show (2 * (n / 2) + 1) % 2 = 1 by omega, show (2 * (n / 2) + 1) / 2 = n / 2 by omega]
      omega
/-- an odd number of bits -/
def oddN (m : Nat) : Bool := decide (pop m % 2 = 1)
def bitI (m i : Nat) : Int := if m.testBit i then 1 else 0
def bitsOf (n m : Nat) : List Int := (List.range n).map (bitI m)
theorem bitsOf_len {n m : Nat} : (bitsOf n m).length = n := by simp [bitsOf]
theorem bitI_one {m i : Nat} : bitI m i = 1 ↔ m.testBit i = true := by
  unfold bitI
  split <;> simp_all
theorem exists_mask : ∀ bs : List Int, (∀ b ∈ bs, b = 0 ∨ b = 1) → ∃ m, m < 2 ^ bs.length ∧ bs = bitsOf bs.length m
  | [], _ => ⟨0, by decide, rfl⟩
  | b :: bs, h => by
    obtain ⟨m, hm, e⟩ := exists_mask bs fun c hc => h c (List.mem_cons_of_mem _ hc)
    refine ⟨b.toNat + 2 * m, ?_, ?_⟩
    · rw [List.length_cons, Nat.pow_succ]
      rcases h b List.mem_cons_self with rfl | rfl <;> simp <;> omega
    · rw [List.length_cons, bitsOf, List.range_succ_eq_map, List.map_cons, List.map_map]
      congr 1
      · rcases h b List.mem_cons_self with rfl | rfl <;> simp [bitI, Nat.testBit_zero] <;> omega
      · conv => lhs; rw [e]
        unfold bitsOf
        apply List.map_congr_left
        intro i _
        simp only [Function.comp_def, bitI, Nat.succ_eq_add_one]
        rw [Nat.testBit_succ]
        have : (b.toNat + 2 * m) / 2 = m := by
          rcases h b List.mem_cons_self with rfl | rfl <;> simp <;> omega
        rw [this]
theorem bitsOf_odd {n m : Nat} {b : Int} {r : List Int} (h : bitsOf n m = b :: r) : (b = 1 ↔ m.testBit 0 = true) := by
  cases n with
  | zero => cases h
  | succ n =>
    rw [bitsOf, List.range_succ_eq_map, List.map_cons] at h
    have := (List.cons.inj h).1
    rw [← this, bitI_one]
theorem bits_lt {n m : Nat} (h : m < 2 ^ n) (hn : n ≤ 64) : bitsL m = ((List.range n).filter fun i => m.testBit i).map fun i => ((i : Nat) : Int) := by
  unfold bitsL
  rw [filter_bits h hn]
theorem bits_mem {m : Nat} {n : Int} (h : n ∈ bitsL m) : 0 ≤ n ∧ n < 64 ∧ m.testBit n.toNat = true := by
  obtain ⟨j, hj, rfl⟩ := List.mem_map.mp h
  have q := List.mem_filter.mp hj
  have := List.mem_range.mp q.1
  exact ⟨by omega, by omega, by simpa using q.2⟩
theorem bits_below {m k : Nat} {n : Int} (hm : m < 2 ^ k) (h : n ∈ bitsL m) : 0 ≤ n ∧ n < k := by
  obtain ⟨h0, _, t⟩ := bits_mem h
  refine ⟨h0, ?_⟩
  by_cases c : n.toNat < k
  · omega
  · rw [Nat.testBit_lt_two_pow (Nat.lt_of_lt_of_le hm (Nat.pow_le_pow_right (by decide) (by omega)))] at t
    cases t
theorem bits_asc (m : Nat) : (bitsL m).Pairwise (· < ·) := by
  unfold bitsL
  rw [List.pairwise_map]
  exact (List.pairwise_lt_range.filter _).imp fun h => by omega
theorem bits_len (m : Nat) : (bitsL m).length ≤ 64 := by
  unfold bitsL
  rw [List.length_map]
  exact Nat.le_trans (List.length_filter_le _ _) (by simp)
theorem cells_asc {ns : List Int} {s : Int} (h : ∀ n ∈ ns, 0 ≤ n ∧ n < s) (ha : ns.Pairwise (· < ·)) : cellsD (tupI ns) s = some ns ∧ cellsD (lstI ns) s = some ns := by
  have nd : ns.Nodup := ha.imp fun h => by omega
  have e : areCells 0 (s - 1) (ns.map PyData.int) = true := by
    rw [areCells, Bool.and_eq_true, intsD_map, decide_eq_true_eq]
    refine ⟨List.all_eq_true.mpr fun d hd => ?_, nd⟩
    obtain ⟨n, hn, rfl⟩ := List.mem_map.mp hd
    have := h n hn
    simp only [intIn, Bool.and_eq_true, decide_eq_true_eq]
    omega
  have i : isort ns = ns := (isort_is (List.Perm.refl ns) (ha.imp fun h => by omega)).symm
  refine ⟨?_, ?_⟩
  · rw [tupI, cellsD_seq (ds := ns.map PyData.int) rfl, if_pos e, intsD_map, i]
  · rw [lstI, cellsD_seq (ds := ns.map PyData.int) rfl, if_pos e, intsD_map, i]
theorem cells_perm {ns : List Int} {s : Int} (h : ∀ n ∈ ns, 0 ≤ n ∧ n < s) (nd : ns.Nodup) : cellsD (tupI ns) s = some (isort ns) ∧ cellsD (lstI ns) s = some (isort ns) := by
  have e : areCells 0 (s - 1) (ns.map PyData.int) = true := by
    rw [areCells, Bool.and_eq_true, intsD_map, decide_eq_true_eq]
    refine ⟨List.all_eq_true.mpr fun d hd => ?_, nd⟩
    obtain ⟨n, hn, rfl⟩ := List.mem_map.mp hd
    have := h n hn
    simp only [intIn, Bool.and_eq_true, decide_eq_true_eq]
    omega
  refine ⟨?_, ?_⟩
  · rw [tupI, cellsD_seq (ds := ns.map PyData.int) rfl, if_pos e, intsD_map]
  · rw [lstI, cellsD_seq (ds := ns.map PyData.int) rfl, if_pos e, intsD_map]
theorem mask_lt {ns : List Int} {k : Nat} (h : ∀ n ∈ ns, 0 ≤ n ∧ n < k) (nd : ns.Nodup) : (maskI ns).toNat < 2 ^ k := by
  refine Nat.lt_pow_two_of_testBit _ fun i hi => ?_
  rw [mask_bit i (fun n hn => (h n hn).1) nd]
  refine decide_eq_false fun m => ?_
  have := h _ m
  omega
theorem tameL_ints' {ns : List Int} {k : Nat} (h : ∀ n ∈ ns, n.natAbs < 2 ^ 250) (hl : ns.length ≤ k) : TameL (ns.map .int) 1 k := by
  refine (tameL_of (k := 1) (m := 0) fun d hd => ?_).mono (Nat.le_refl _) (by simpa using hl)
  obtain ⟨n, hn, rfl⟩ := List.mem_map.mp hd
  exact tame_int (h n hn)
theorem tame_lstI {ns : List Int} {k : Nat} (h : ∀ n ∈ ns, n.natAbs < 2 ^ 250) (hl : ns.length ≤ k) : Tame (lstI ns) 2 k := tame_lst (tameL_ints' h hl)
theorem tame_tupI' {ns : List Int} {k : Nat} (h : ∀ n ∈ ns, n.natAbs < 2 ^ 250) (hl : ns.length ≤ k) : Tame (tupI ns) 2 k := tame_tup (tameL_ints' h hl)
theorem rg_mem {a b n : Int} (h : n ∈ (List.range (b - a).toNat).map fun i => a + ((i : Nat) : Int)) : a ≤ n ∧ n < b := by
  obtain ⟨i, hi, rfl⟩ := List.mem_map.mp h
  have := List.mem_range.mp hi
  omega
theorem rg_lt {a b : Int} : ((List.range (b - a).toNat).map fun i => a + ((i : Nat) : Int)).Pairwise (· < ·) := by
  rw [List.pairwise_map]
  exact List.pairwise_lt_range.imp fun h => by omega
theorem asc_len : ∀ {ns : List Int} {l w : Int}, (∀ n ∈ ns, l ≤ n ∧ n < w) → ns.Pairwise (· < ·) → l ≤ w → (ns.length : Int) ≤ w - l
  | [], l, w, _, _, h => by show (0 : Int) ≤ w - l; omega
  | n :: ns, l, w, h, hp, _ => by
    have h1 := h n List.mem_cons_self
    have p1 := (List.pairwise_cons.mp hp).1
    have ih := asc_len (ns := ns) (l := n + 1) (w := w) (fun m hm => ⟨by have := p1 m hm; omega, (h m (List.mem_cons_of_mem _ hm)).2⟩) (List.pairwise_cons.mp hp).2 (by omega)
    rw [List.length_cons]
    omega
/-- the sum of the bits at some places -/
def bitSum (m : Nat) (ns : List Int) : Int := (ns.map fun i => bitI m i.toNat).sum
theorem pop_filter : ∀ (N k : Nat), k < 2 ^ N → pop k = ((List.range N).filter fun i => k.testBit i).length
  | 0, k, h => by
    have : k = 0 := by omega
    subst this
    rw [pop_zero]
    rfl
  | N + 1, k, h => by
    have ih := pop_filter N (k / 2) (by rw [Nat.pow_succ] at h; omega)
    rw [pop_step, ih, List.range_succ_eq_map, List.filter_cons, List.filter_map, Nat.testBit_zero]
    have e : ((fun i => k.testBit i) ∘ Nat.succ) = fun i => (k / 2).testBit i := by
      funext i
      rw [Function.comp_apply, Nat.succ_eq_add_one, Nat.testBit_succ]
    rw [e]
    rcases Nat.mod_two_eq_zero_or_one k with c | c <;> simp [c] <;> omega
theorem pop_and {m : Nat} {ns : List Int} (h : ∀ n ∈ ns, 0 ≤ n ∧ n < 64) (nd : ns.Nodup) :
    pop ((maskI ns).toNat &&& m) = (ns.filter fun i => m.testBit i.toNat).length := by
  have lt : (maskI ns).toNat &&& m < 2 ^ 64 := Nat.lt_of_le_of_lt Nat.and_le_left (mask_lt (k := 64) h nd)
  rw [pop_filter 64 _ lt]
  have pm : (((List.range 64).filter fun i => ((maskI ns).toNat &&& m).testBit i).map fun i => ((i : Nat) : Int)).Perm (ns.filter fun i => m.testBit i.toNat) := by
    refine (List.perm_ext_iff_of_nodup ?_ ?_).mpr ?_
    · rw [List.nodup_iff_pairwise_ne, List.pairwise_map]
      exact (List.pairwise_lt_range.filter _).imp fun h => by omega
    · exact nd.filter _
    · intro a
      rw [List.mem_map, List.mem_filter]
      constructor
      · rintro ⟨i, hi, rfl⟩
        have q := (List.mem_filter.mp hi).2
        rw [Nat.testBit_and, Bool.and_eq_true, mask_bit i (fun n hn => (h n hn).1) nd] at q
        exact ⟨of_decide_eq_true q.1, by rw [Int.toNat_natCast]; exact q.2⟩
      · rintro ⟨ha, hb⟩
        have ra := h a ha
        refine ⟨a.toNat, List.mem_filter.mpr ⟨List.mem_range.mpr (by omega), ?_⟩, by omega⟩
        rw [Nat.testBit_and, Bool.and_eq_true, mask_bit _ (fun n hn => (h n hn).1) nd]
        exact ⟨decide_eq_true (by rwa [show ((a.toNat : Nat) : Int) = a by omega]), hb⟩
  have := pm.length_eq
  rw [List.length_map] at this
  exact this
theorem bitSum_filter (m : Nat) : ∀ ns : List Int, bitSum m ns = ((ns.filter fun i => m.testBit i.toNat).length : Nat)
  | [] => rfl
  | n :: ns => by
    have ih := bitSum_filter m ns
    show bitI m n.toNat + bitSum m ns = _
    rw [ih, List.filter_cons]
    unfold bitI
    split <;> simp <;> omega
theorem parity_and {m : Nat} {ns : List Int} (h : ∀ n ∈ ns, 0 ≤ n ∧ n < 64) (nd : ns.Nodup) :
    (if oddN ((maskI ns).toNat &&& m) then (1 : Int) else 0) = bitSum m ns % 2 := by
  unfold oddN
  rw [pop_and h nd, bitSum_filter]
  rcases Nat.mod_two_eq_zero_or_one (ns.filter fun i => m.testBit i.toNat).length with c | c <;> simp [c] <;> omega
theorem bitSum_perm {m : Nat} {a b : List Int} (h : a.Perm b) : bitSum m a = bitSum m b := by
  unfold bitSum
  induction h with
  | nil => rfl
  | cons x _ ih => simp only [List.map_cons, List.sum_cons]; omega
  | swap x y l => simp only [List.map_cons, List.sum_cons]; omega
  | trans _ _ h1 h2 => exact h1.trans h2
/-- a flip's masks -/
structure FlipOk (t g : Nat) : Prop where
  lt : t < 2 ^ 40
  lg : g < 2 ^ 40
  fix : g.testBit 0 = false
  ev : oddN (t &&& g) = false
/-- what a flip does to a mask -/
def afterM (m t g : Nat) : Nat := if oddN (m &&& t) then m ^^^ g else m
theorem afterM_lt {m t g n : Nat} (h : m < 2 ^ n) (hg : g < 2 ^ n) : afterM m t g < 2 ^ n := by
  unfold afterM
  split
  · exact Nat.xor_lt_two_pow h hg
  · exact h
theorem afterM_odd {m t g : Nat} (h : m.testBit 0 = true) (hg : g.testBit 0 = false) : (afterM m t g).testBit 0 = true := by
  unfold afterM
  split
  · rw [Nat.testBit_xor, h, hg]; rfl
  · exact h
theorem oddN_xor (a b : Nat) : oddN (a ^^^ b) = (oddN a != oddN b) := by
  have h : ∀ (N a b : Nat), a < 2 ^ N → b < 2 ^ N → oddN (a ^^^ b) = (oddN a != oddN b) := by
    intro N
    induction N with
    | zero =>
      intro a b ha hb
      have : a = 0 := by omega
      have : b = 0 := by omega
      subst a b
      simp [oddN, pop_zero]
    | succ N ih =>
      intro a b ha hb
      rw [Nat.pow_succ] at ha hb
      have i := ih (a / 2) (b / 2) (by omega) (by omega)
      unfold oddN at i ⊢
      rw [pop_step (a ^^^ b), pop_step a, pop_step b, Nat.xor_div_two]
      have x : (a ^^^ b) % 2 = (a % 2 + b % 2) % 2 := by
        have e : (a ^^^ b) % 2 = 1 ↔ ¬ (a % 2 = 1 ↔ b % 2 = 1) := Nat.xor_mod_two_eq_one
        omega
      generalize pop (a / 2 ^^^ b / 2) = P at i
      generalize pop (a / 2) = A at i
      generalize pop (b / 2) = B at i
      rw [x]
      clear x
      have dm : ∀ c d : Nat, (decide (c % 2 = 1) != decide (d % 2 = 1)) = decide ((c + d) % 2 = 1) := by
        intro c d
        rcases Nat.mod_two_eq_zero_or_one c with e1 | e1 <;> rcases Nat.mod_two_eq_zero_or_one d with e2 | e2 <;> simp [e1, e2, Nat.add_mod]
      rw [dm] at i ⊢
      have i' : P % 2 = 1 ↔ (A + B) % 2 = 1 := by
        rw [← decide_eq_true_eq (p := P % 2 = 1), i, decide_eq_true_eq]
      rw [Bool.eq_iff_iff, decide_eq_true_eq, decide_eq_true_eq]
      omega
  refine h (a + b) a b ?_ ?_
  · exact Nat.lt_of_lt_of_le Nat.lt_two_pow_self (Nat.pow_le_pow_right (by decide) (by omega))
  · exact Nat.lt_of_lt_of_le Nat.lt_two_pow_self (Nat.pow_le_pow_right (by decide) (by omega))
theorem and_xor_dist (a b c : Nat) : (a ^^^ b) &&& c = (a &&& c) ^^^ (b &&& c) := Nat.and_xor_distrib_right ..
/-- the parity of the tested cells stays -/
theorem afterM_test {m t g : Nat} (ev : oddN (t &&& g) = false) : oddN (afterM m t g &&& t) = oddN (m &&& t) := by
  unfold afterM
  split
  · rw [and_xor_dist, oddN_xor, Nat.and_comm g t, ev]
    cases oddN (m &&& t) <;> rfl
  · rfl
theorem afterM_twice {m t g : Nat} (ev : oddN (t &&& g) = false) : afterM (afterM m t g) t g = m := by
  have h := afterM_test (m := m) ev
  by_cases c : oddN (m &&& t) = true
  · rw [c] at h
    have e : afterM m t g = m ^^^ g := by unfold afterM; rw [if_pos c]
    rw [e] at h ⊢
    unfold afterM
    rw [if_pos h, Nat.xor_assoc, Nat.xor_self, Nat.xor_zero]
  · have e : afterM m t g = m := by unfold afterM; rw [if_neg c]
    rw [e, e]
/-- what is refused, as the laws tell it -/
def badD (d e : PyData) : Option PyData :=
  match cellsD d 40 with
  | none => some (.list [.str "cells", d, .bool true])
  | some ts => match cellsD e 40 with
    | none => some (.list [.str "cells", e, .bool true])
    | some gs => if (0 : Int) ∈ gs then some (.list [.str "fixed", .bool true]) else if oddN ((maskI ts).toNat &&& (maskI gs).toNat) = true then some (.list [.str "odd", .bool true]) else none
def dueD (d e : PyData) : PyData := (badD d e).getD (.list [.str "flip"])
def widM (t g : Nat) : Nat := max 1 (Builtin.Int.intBits ((t ||| g : Nat) : Int))
theorem widM_le {t g n : Nat} (h : 1 ≤ n) : widM t g ≤ n ↔ t < 2 ^ n ∧ g < 2 ^ n := by
  unfold widM
  rw [Nat.max_le]
  have e : Builtin.Int.intBits ((t ||| g : Nat) : Int) ≤ n ↔ (t ||| g) < 2 ^ n := by
    have := PySem.intBits_le_iff (m := n) (x := ((t ||| g : Nat) : Int))
    simpa using this
  rw [e]
  constructor
  · rintro ⟨_, h2⟩
    exact ⟨Nat.lt_of_le_of_lt Nat.left_le_or h2, Nat.lt_of_le_of_lt Nat.right_le_or h2⟩
  · rintro ⟨h1, h2⟩
    exact ⟨h, Nat.or_lt_two_pow h1 h2⟩
theorem or_nn (a b : Nat) : Builtin.bitOr (a : Int) (b : Int) = ((a ||| b : Nat) : Int) := by
  have h := bitOr_nn (Int.natCast_nonneg a) (Int.natCast_nonneg b)
  simpa using h
theorem maskN {ns : List Int} : maskI ns = (((maskI ns).toNat : Nat) : Int) := by have := maskI_nn ns; omega
/-- tested and toggled cells, as the laws hold them -/
structure PairOk (n : Nat) (ts gs : List Int) : Prop where
  tr : ∀ t ∈ ts, 0 ≤ t ∧ t < n
  ta : ts.Pairwise (· < ·)
  gr : ∀ g ∈ gs, 1 ≤ g ∧ g < n
  ga : gs.Pairwise (· < ·)
  ev : (ts.filter fun t => decide (t ∈ gs)).length % 2 = 0
section
variable {n : Nat} {ts gs : List Int}
theorem PairOk.tn (h : PairOk n ts gs) : ts.Nodup := h.ta.imp fun h => by omega
theorem PairOk.gn (h : PairOk n ts gs) : gs.Nodup := h.ga.imp fun h => by omega
theorem PairOk.g0 (h : PairOk n ts gs) : ∀ g ∈ gs, 0 ≤ g ∧ g < n := fun g hg => by have := h.gr g hg; omega
theorem PairOk.no0 (h : PairOk n ts gs) : (0 : Int) ∉ gs := fun m => by have := h.gr 0 m; omega
theorem PairOk.tl (h : PairOk n ts gs) : ts.length ≤ n := by have := asc_len h.tr h.ta (by omega); omega
theorem PairOk.gl (h : PairOk n ts gs) : gs.length ≤ n := by have := asc_len h.g0 h.ga (by omega); omega
theorem PairOk.even (h : PairOk n ts gs) (hn : n ≤ 64) : oddN ((maskI ts).toNat &&& (maskI gs).toNat) = false := by
  unfold oddN
  rw [pop_and (fun t ht => by have := h.tr t ht; omega) h.tn]
  have e : (ts.filter fun i => (maskI gs).toNat.testBit i.toNat) = ts.filter fun t => decide (t ∈ gs) := by
    apply List.filter_congr
    intro t ht
    rw [mask_bit _ (fun g hg => (h.g0 g hg).1) h.gn]
    have := (h.tr t ht).1
    rw [show ((t.toNat : Nat) : Int) = t by omega]
  rw [e, h.ev]
  rfl
theorem PairOk.flip (h : PairOk n ts gs) (hn : n ≤ 40) : FlipOk (maskI ts).toNat (maskI gs).toNat := by
  refine ⟨mask_lt (k := 40) (fun t ht => by have := h.tr t ht; omega) h.tn, mask_lt (k := 40) (fun t ht => by have := h.gr t ht; omega) h.gn, ?_, h.even (by omega)⟩
  rw [mask_bit 0 (fun g hg => (h.g0 g hg).1) h.gn]
  exact decide_eq_false h.no0
theorem PairOk.mono (h : PairOk n ts gs) {k : Nat} (hk : n ≤ k) : PairOk k ts gs :=
  ⟨fun t ht => by have := h.tr t ht; omega, h.ta, fun t ht => by have := h.gr t ht; omega, h.ga, h.ev⟩
/-- the masks of a pair -/
theorem PairOk.ct (h : PairOk n ts gs) (hn : n ≤ 40) : cellsD (lstI ts) 40 = some ts ∧ cellsD (tupI ts) 40 = some ts := (cells_asc (fun t ht => by have := h.tr t ht; omega) h.ta).symm
theorem PairOk.cg (h : PairOk n ts gs) (hn : n ≤ 40) : cellsD (lstI gs) 40 = some gs ∧ cellsD (tupI gs) 40 = some gs := (cells_asc (fun t ht => by have := h.gr t ht; omega) h.ga).symm
theorem PairOk.tt (h : PairOk n ts gs) (hn : n ≤ 40) : Tame (lstI ts) 2 40 := tame_lstI (fun t ht => by have := h.tr t ht; omega) (by have := h.tl; omega)
theorem PairOk.tg (h : PairOk n ts gs) (hn : n ≤ 40) : Tame (lstI gs) 2 40 := tame_lstI (fun t ht => by have := h.gr t ht; omega) (by have := h.gl; omega)
/-- the law's own answer -/
theorem afterM_bits {m : Nat} (h : PairOk n ts gs) (hn : n ≤ 64) : bitSum m ts % 2 = 0 → afterM m (maskI ts).toNat (maskI gs).toNat = m := by
  intro e
  unfold afterM
  rw [Nat.and_comm, if_neg]
  intro o
  have p := parity_and (m := m) (fun t ht => by have := h.tr t ht; omega) h.tn
  rw [o, if_pos rfl] at p
  omega
theorem afterM_bits1 {m : Nat} (h : PairOk n ts gs) (hn : n ≤ 64) : bitSum m ts % 2 ≠ 0 → afterM m (maskI ts).toNat (maskI gs).toNat = m ^^^ (maskI gs).toNat := by
  intro e
  unfold afterM
  rw [Nat.and_comm, if_pos]
  have p := parity_and (m := m) (fun t ht => by have := h.tr t ht; omega) h.tn
  by_cases o : oddN ((maskI ts).toNat &&& m) = true
  · exact o
  · rw [if_neg o] at p
    omega
theorem PairOk.wid (h : PairOk n ts gs) (h1 : 1 ≤ n) : widM (maskI ts).toNat (maskI gs).toNat ≤ n :=
  (widM_le h1).mpr ⟨mask_lt h.tr h.tn, mask_lt h.g0 h.gn⟩
end
theorem mask_lt_iff {ns : List Int} {k : Nat} (h : ∀ n ∈ ns, 0 ≤ n) (nd : ns.Nodup) : (maskI ns).toNat < 2 ^ k ↔ ∀ n ∈ ns, n < k := by
  constructor
  · intro lt n hn
    have h0 := h n hn
    have b := mask_bit n.toNat h nd
    rw [show ((n.toNat : Nat) : Int) = n by omega, decide_eq_true hn] at b
    by_cases c : n < k
    · exact c
    · rw [Nat.testBit_lt_two_pow (Nat.lt_of_lt_of_le lt (Nat.pow_le_pow_right (by decide) (by omega)))] at b
      cases b
  · intro lt
    exact mask_lt (fun n hn => ⟨h n hn, lt n hn⟩) nd
theorem bits_isort {ns : List Int} (hr : ∀ n ∈ ns, 0 ≤ n ∧ n < 64) (nd : ns.Nodup) : bitsL (maskI ns).toNat = isort ns := by
  refine bits_of_mask (fun i _ => ?_) (fun n hn => hr n ((isort_perm ns).mem_iff.mp hn)) ?_
  · rw [mask_bit i (fun n hn => (hr n hn).1) nd, Bool.eq_iff_iff, decide_eq_true_eq, decide_eq_true_eq, (isort_perm ns).mem_iff]
  · have nd2 : (isort ns).Nodup := (isort_perm ns).nodup_iff.mpr nd
    exact ((isort_le ns).and nd2).imp fun h => by
      have h1 := h.1
      have h2 := h.2
      omega
theorem PairOk.max {n : Nat} {ts gs : List Int} {m : Int} (h : PairOk n ts gs) (mm : m ∈ [0] ++ ts ++ gs) (hm : ∀ y ∈ [0] ++ ts ++ gs, y ≤ m) : 1 + m = ((widM (maskI ts).toNat (maskI gs).toNat : Nat) : Int) := by
  have m0 : 0 ≤ m := hm 0 (by simp)
  have key : ∀ k : Nat, 1 ≤ k → (widM (maskI ts).toNat (maskI gs).toNat ≤ k ↔ 1 + m ≤ k) := by
    intro k hk
    rw [widM_le hk, mask_lt_iff (fun t ht => (h.tr t ht).1) h.tn, mask_lt_iff (fun t ht => (h.g0 t ht).1) h.gn]
    constructor
    · rintro ⟨h1, h2⟩
      simp only [List.mem_append, List.mem_singleton] at mm
      rcases mm with (rfl | mm) | mm
      · omega
      · have := h1 m mm
        omega
      · have := h2 m mm
        omega
    · intro hk2
      refine ⟨fun t ht => ?_, fun t ht => ?_⟩
      · have := hm t (by simp [ht])
        omega
      · have := hm t (by simp [ht])
        omega
  have w1 : 1 ≤ widM (maskI ts).toNat (maskI gs).toNat := Nat.le_max_left ..
  have a := (key _ w1).mp (Nat.le_refl _)
  have b := (key (1 + m).toNat (by omega)).mpr (by omega)
  omega
/-- a mask behind a sequence of flips -/
def afterL (m : Nat) (fl : List (Nat × Nat)) : Nat := fl.foldl (fun m f => afterM m f.1 f.2) m
theorem bits_self {a : List Int} (ha : ∀ x ∈ a, 0 ≤ x ∧ x < 64) (aa : a.Pairwise (· < ·)) : bitsL (maskI a).toNat = a := by
  rw [bits_isort ha (aa.imp fun h => by omega)]
  exact (isort_is (List.Perm.refl a) (aa.imp fun h => by omega)).symm
def intsTo (n : Nat) : List Int := (List.range n).map fun i => ((i : Nat) : Int)
theorem mem_intsTo {n : Nat} {k : Int} : k ∈ intsTo n ↔ 0 ≤ k ∧ k < n := by
  unfold intsTo
  rw [List.mem_map]
  constructor
  · rintro ⟨i, hi, rfl⟩
    have := List.mem_range.mp hi
    omega
  · rintro ⟨h1, h2⟩
    exact ⟨k.toNat, List.mem_range.mpr (by omega), by omega⟩
/-- the bit length -/
def bln (m : Nat) : Nat := Builtin.Int.intBits (m : Int)
/-- masks with the items that make them, by their bit lengths -/
abbrev Ech := List (Nat × Nat × Nat)
/-- what items add up to -/
inductive Spn (E : Ech) : Nat → Nat → Prop where
  | zero : Spn E 0 0
  | add {L r u m i : Nat} (h : (L, r, u) ∈ E) (s : Spn E m i) : Spn E (m ^^^ r) (i ^^^ u)
/-- what all masks have even, their sums have even -/
theorem Spn.even {E : Ech} {b : Nat} (h : ∀ L r u, (L, r, u) ∈ E → oddN (r &&& b) = false) {m i : Nat} (s : Spn E m i) : oddN (m &&& b) = false := by
  induction s with
  | zero => rw [Nat.zero_and]; simp [oddN, pop_zero]
  | add hm _ ih => rw [and_xor_dist, oddN_xor, ih, h _ _ _ hm]; rfl
structure EchOk (E : Ech) : Prop where
  ok : ∀ L r u, (L, r, u) ∈ E → r ≠ 0 ∧ bln r = L ∧ r < 2 ^ 40
def EchGet (E : Ech) (L : Nat) : Option (Nat × Nat) := (E.find? fun e => decide (e.1 = L)).map (·.2)
theorem EchGet.mem {E : Ech} {L : Nat} {x : Nat × Nat} (h : EchGet E L = some x) : (L, x.1, x.2) ∈ E := by
  obtain ⟨⟨L', r, u⟩, e, rfl⟩ := Option.map_eq_some_iff.mp h
  have a := List.find?_some e
  have := of_decide_eq_true a
  have b := List.mem_of_find?_eq_some e
  simp only at this
  subst this
  exact b
theorem EchGet.cons {E : Ech} {L r u j : Nat} : EchGet ((L, r, u) :: E) j = if j = L then some (r, u) else EchGet E j := by
  unfold EchGet
  rw [List.find?_cons]
  by_cases c : j = L
  · subst c; simp
  · have : decide (L = j) = false := decide_eq_false fun z => c z.symm
    simp [this, c]
/-- each mask is odd with some board with which those before it are even -/
def Free (masks : List Nat) : Prop := ∀ (i : Nat) (h : i < masks.length), ∃ b, (∀ (j : Nat) (hj : j < i), oddN (masks[j] &&& b) = false) ∧ oddN (masks[i] &&& b) = true
section
variable {σ : L2.St} {H : Hp} {Q : VK} {D : Ends} {td ty tv te : TE} {i : Nat} {ti : TIp}
end
/-- rows that are right: their masks -/
structure RowsOk (d : PyData) (ms : List Nat) : Prop where
  ex : ∃ ds, seqD d = some ds ∧ ds.length = ms.length ∧ ∀ (i : Nat) (h : i < ms.length) e, ds[i]? = some e → cellsD e ms.length = some (bitsL ms[i]) ∧ Tame e 40 50000
  n1 : 1 ≤ ms.length
  n40 : ms.length ≤ 40
  lt : ∀ m ∈ ms, m < 2 ^ 40
theorem Spn.self {E : Ech} {L r u : Nat} (h : (L, r, u) ∈ E) : Spn E r u := by
  have := Spn.add h (Spn.zero (E := E))
  rwa [Nat.zero_xor, Nat.zero_xor] at this
theorem EchOk.cons {E : Ech} {r u : Nat} (h : EchOk E) (r0 : r ≠ 0) (l : r < 2 ^ 40) : EchOk ((bln r, r, u) :: E) := ⟨fun L r' u' m => by
  rcases List.mem_cons.mp m with z | z
  · cases z; exact ⟨r0, rfl, l⟩
  · exact h.ok _ _ _ z⟩
/-- masks added -/
def xorOf (ms : List Nat) (cs : List Int) : Nat := cs.foldl (fun a c => a ^^^ ms.getD c.toNat 0) 0
theorem xorOf_from (ms : List Nat) : ∀ (cs : List Int) (a : Nat), cs.foldl (fun a c => a ^^^ ms.getD c.toNat 0) a = a ^^^ xorOf ms cs
  | [], a => by simp [xorOf]
  | c :: cs, a => by
    unfold xorOf
    rw [List.foldl_cons, List.foldl_cons, xorOf_from ms cs, xorOf_from ms cs, Nat.zero_xor, Nat.xor_assoc]
theorem xorOf_odd {ms : List Nat} {m k : Nat} : ∀ {cs : List Int}, (∀ c ∈ cs, oddN (ms.getD c.toNat 0 &&& m) = k.testBit c.toNat) →
    oddN (xorOf ms cs &&& m) = decide ((cs.filter fun c => k.testBit c.toNat).length % 2 = 1)
  | [], _ => by
    show oddN (0 &&& m) = _
    rw [Nat.zero_and]
    simp [oddN, pop_zero]
  | c :: cs, h => by
    have ih := xorOf_odd (cs := cs) fun d hd => h d (List.mem_cons_of_mem _ hd)
    unfold xorOf
    rw [List.foldl_cons, xorOf_from, Nat.zero_xor, and_xor_dist, oddN_xor, h c (by simp), ih, List.filter_cons]
    cases e : k.testBit c.toNat
    · simp
    · rw [if_pos rfl, List.length_cons, Bool.eq_iff_iff]
      simp
      omega
theorem xorOf_lt {ms : List Nat} {n : Nat} (h : ∀ x ∈ ms, x < 2 ^ n) : ∀ cs : List Int, xorOf ms cs < 2 ^ n
  | [] => by
    show 0 < 2 ^ n
    exact Nat.two_pow_pos n
  | c :: cs => by
    unfold xorOf
    rw [List.foldl_cons, xorOf_from, Nat.zero_xor]
    refine Nat.xor_lt_two_pow ?_ (xorOf_lt h cs)
    rw [List.getD_eq_getElem?_getD]
    cases e : ms[c.toNat]? with
    | none => exact Nat.two_pow_pos n
    | some x => exact h x (List.mem_of_getElem? e)
/-- the masks behind a flip more -/
def stepT (ms : List Nat) (t g : Nat) : List Nat := (List.range ms.length).map fun i => if g.testBit i = true then ms.getD i 0 ^^^ xorOf ms (bitsL t) else ms.getD i 0
structure TabInv (n : Nat) (fl : List (Nat × Nat)) (ms : List Nat) : Prop where
  len : ms.length = n
  ok : ∀ m i, i < n → oddN (ms.getD i 0 &&& m) = (afterL m fl).testBit i
  lt : ∀ x ∈ ms, x < 2 ^ n
  first : ms.getD 0 0 = 1
theorem stepT_get {ms : List Nat} {t g i : Nat} (h : i < ms.length) : (stepT ms t g).getD i 0 = if g.testBit i = true then ms.getD i 0 ^^^ xorOf ms (bitsL t) else ms.getD i 0 := by
  unfold stepT
  rw [List.getD_eq_getElem?_getD, List.getElem?_map, List.getElem?_range h]
  rfl
theorem TabInv.step {n : Nat} {fl : List (Nat × Nat)} {ms : List Nat} (h : TabInv n fl ms) {t g : Nat} (n1 : 1 ≤ n) (n40 : n ≤ 40) (ht : t < 2 ^ n) (g0 : g.testBit 0 = false) : TabInv n (fl ++ [(t, g)]) (stepT ms t g) := by
  have t64 : t < 2 ^ 64 := Nat.lt_of_lt_of_le ht (Nat.pow_le_pow_right (by decide) (by omega))
  refine ⟨by unfold stepT; rw [List.length_map, List.length_range]; exact h.len, fun m i hi => ?_, fun x hx => ?_, ?_⟩
  · have e : afterL m (fl ++ [(t, g)]) = afterM (afterL m fl) t g := by
      unfold afterL
      rw [List.foldl_append]
      rfl
    have hx := xorOf_odd (ms := ms) (m := m) (k := afterL m fl) (cs := bitsL t) fun c hc => by
      have := bits_below ht hc
      exact h.ok m c.toNat (by omega)
    have hp := pop_and (ns := bitsL t) (m := afterL m fl) (fun c hc => by have := bits_mem hc; omega) ((bits_asc t).imp fun h => by omega)
    rw [mask_bits t64] at hp
    have ho : oddN (afterL m fl &&& t) = oddN (xorOf ms (bitsL t) &&& m) := by
      rw [hx, Nat.and_comm]
      unfold oddN
      rw [hp]
    rw [e, stepT_get (by rw [h.len]; exact hi), afterM]
    by_cases o : oddN (afterL m fl &&& t) = true
    · rw [if_pos o, Nat.testBit_xor]
      by_cases c : g.testBit i = true
      · rw [if_pos c, and_xor_dist, oddN_xor, h.ok m i hi, ← ho, o, c]
      · rw [if_neg c, h.ok m i hi, Bool.eq_false_iff.mpr c, Bool.xor_false]
    · rw [if_neg o]
      by_cases c : g.testBit i = true
      · rw [if_pos c, and_xor_dist, oddN_xor, h.ok m i hi, ← ho, Bool.eq_false_iff.mpr o]
        cases (afterL m fl).testBit i <;> rfl
      · rw [if_neg c, h.ok m i hi]
  · unfold stepT at hx
    obtain ⟨i, hi, rfl⟩ := List.mem_map.mp hx
    have hg : ms.getD i 0 < 2 ^ n := by
      have := List.mem_range.mp hi
      rw [List.getD_eq_getElem?_getD, List.getElem?_eq_getElem this]
      exact h.lt _ (List.getElem_mem this)
    split
    · exact Nat.xor_lt_two_pow hg (xorOf_lt h.lt _)
    · exact hg
  · rw [stepT_get (by rw [h.len]; omega), if_neg (by rw [g0]; decide)]
    exact h.first
theorem after_back : ∀ (fl : List (Nat × Nat)), (∀ f ∈ fl, oddN (f.1 &&& f.2) = false) → ∀ x, afterL (afterL x fl.reverse) fl = x
  | [], _, x => rfl
  | f :: fl, h, x => by
    have ih := after_back fl (fun g hg => h g (List.mem_cons_of_mem _ hg)) x
    have e1 : afterL x (f :: fl).reverse = afterM (afterL x fl.reverse) f.1 f.2 := by
      rw [List.reverse_cons]
      unfold afterL
      rw [List.foldl_append]
      rfl
    have e2 : ∀ y, afterL y (f :: fl) = afterL (afterM y f.1 f.2) fl := fun y => rfl
    rw [e1, e2, afterM_twice (h f (by simp)), ih]
theorem TabInv.free {n : Nat} {fl : List (Nat × Nat)} {ms : List Nat} (h : TabInv n fl ms) (hf : ∀ f ∈ fl, oddN (f.1 &&& f.2) = false) : Free ms := by
  intro i hi
  have gd : ∀ (j : Nat) (hj : j < ms.length), ms.getD j 0 = ms[j] := fun j hj => by rw [List.getD_eq_getElem?_getD, List.getElem?_eq_getElem hj]; rfl
  refine ⟨afterL (2 ^ i) fl.reverse, fun j hj => ?_, ?_⟩
  · rw [← gd j (by omega), h.ok _ j (by rw [← h.len]; omega), after_back fl hf, Nat.testBit_two_pow]
    simp
    omega
  · rw [← gd i hi, h.ok _ i (by rw [← h.len]; exact hi), after_back fl hf, Nat.testBit_two_pow]
    simp
end PC

set_option Elab.async false
set_option linter.all false
set_option maxRecDepth 100000
set_option maxHeartbeats 2000000
/-! PcK: == and != of the program's own objects, by their own __eq__. -/
namespace PC
open PySem PySem.Spec PyProof.Rows L2

section
variable {prog : Program} {w : World} {A : Around} {E : Value → Shared → Prop} {s : Shared} {K : PySem.W.Frag} {x y C f : Addr} {ox : Obj} {od : Option Obj}
end

/-- an own class with its own __eq__ at f, the built-in __ne__ -/
structure EqT (K : PySem.W.Frag) (C f : Addr) : Prop where
  own : PySem.W.findIn K (.ref C) "__eq__" = some (some (.ref f))
  fn : PySem.W.isFn K (.ref f) = true
  ne : PySem.W.findIn K (.ref C) "__ne__" = some (some (.builtin "object.__ne__"))
section
variable {X : Cx} {k : Nat} {f C : Addr} {fd : FuncData} {ps : List Str} {sp : Sp}
end
/-! ### x in a list or a tuple of data -/
section
variable {X : Cx} {K : PySem.W.Frag} {H : Hp} {Q : VK} {x y : V} {Z : List Addr} {d : PyData} {ds : List PyData}
end
/-! ### name op= int -/
section
variable {X : Cx}
end
end PC

set_option Elab.async false
set_option linter.all false
set_option maxRecDepth 100000
set_option maxHeartbeats 2000000
/-! PcS: typed readings over a store: what a text computes, as a wish over plain values and a store of things that change. -/
namespace TL
open PySem PySem.Spec PyProof.Rows L2 PC

/-! ### steps -/
abbrev Pl := Addr → Prop
/-- all that is tracked stays, but at the places of Z; a place of Z' is one of Z, or was free -/
structure Stp (Z : Pl) (H : Hp) (Z' : Pl) (H' : Hp) : Prop where
  keep : ∀ b o, ¬ Z b → H b = some o → H' b = some o
  zz : ∀ b, Z' b → Z b ∨ H b = none
section
variable {Z Z' Z'' : Pl} {H H' H'' : Hp}
theorem Stp.refl : Stp Z H Z H := ⟨fun _ _ _ e => e, fun _ h => .inl h⟩
theorem Stp.trans (a : Stp Z H Z' H') (b : Stp Z' H' Z'' H'') : Stp Z H Z'' H'' :=
  ⟨fun c o n e => b.keep c o (fun z => (a.zz c z).elim n fun w => by rw [e] at w; cases w) (a.keep c o n e),
   fun c z => (b.zz c z).elim (a.zz c) fun w => by
    by_cases n : Z c
    · exact .inl n
    · cases e : H c with
      | none => exact .inr rfl
      | some o => rw [a.keep c o n e] at w; cases w⟩
theorem Stp.less (h : ∀ a, Z' a → Z a) : Stp Z H Z' H := ⟨fun _ _ _ e => e, fun b z => .inl (h b z)⟩
theorem Stp.new {n : Addr} {o : HO} (h : H n = none) : Stp Z H Z (upd H n o) := ⟨fun b u _ e => by rw [upd_ne (ne_of_none e h)]; exact e, fun _ z => .inl z⟩
theorem Stp.put {a : Addr} {o : HO} (h : Z a) : Stp Z H Z (upd H a o) := ⟨fun b u n e => by
  by_cases w : b = a
  · subst w; exact absurd h n
  · rw [upd_ne w]; exact e, fun _ z => .inl z⟩
theorem Stp.more {n : Addr} (h : H n = none) : Stp Z H (fun b => Z b ∨ b = n) H := ⟨fun _ _ _ e => e, fun b z => z.elim .inl fun w => .inr (w ▸ h)⟩
theorem Stp.same (s : Same H H') : Stp Z H Z H' := ⟨fun b o _ e => s b o e, fun _ z => .inl z⟩
theorem rd_stp {a : Addr} {u : HO} (r : Stp Z H Z' H') (n : ¬ Z a) (h : Rd H a u) : Rd H' a u := by
  rcases h with h | ⟨o, h⟩
  · exact .inl (r.keep _ _ n h)
  · exact .inr ⟨o, r.keep _ _ n h⟩
theorem rd_some {a : Addr} {u : HO} (h : Rd H a u) : H a ≠ none := by
  rcases h with h | ⟨o, h⟩ <;> (rw [h]; exact fun z => nomatch z)
theorem nz_stp {a : Addr} (r : Stp Z H Z' H') (n : ¬ Z a) (h : H a ≠ none) : ¬ Z' a := fun z => (r.zz a z).elim n h
end

/-! ### data -/
section
variable (K : PySem.W.Frag)
mutual
/-- v shows the data d; none of its own objects stands at a place of Z -/
def DatP (Z : Pl) (H : Hp) : PyData → V → Prop
  | .none, v => v = .non
  | .bool b, v => v = .bl b
  | .int i, v => v = .int i
  | .str x, v => v = .str x
  | .list ds, v => ∃ a xs, v = .ref a ∧ ¬ Z a ∧ Rd H a (.lst xs) ∧ DatPL Z H ds xs
  | .tuple ds, v => ∃ a xs, v = .ref a ∧ (¬ Z a ∨ SqT K (fun _ => none) a xs) ∧ SqT K H a xs ∧ DatPL Z H ds xs
  | .dict kvs, v => ∃ a es, v = .ref a ∧ ¬ Z a ∧ H a = some (.dK es) ∧ DatPK Z H kvs es
def DatPL (Z : Pl) (H : Hp) : List PyData → List V → Prop
  | [], vs => vs = []
  | d :: ds, vs => ∃ v r, vs = v :: r ∧ DatP Z H d v ∧ DatPL Z H ds r
def DatPK (Z : Pl) (H : Hp) : List (PyData × PyData) → List (Key × V) → Prop
  | [], es => es = []
  | (k, d) :: r, es => ∃ kk v t, es = (kk, v) :: t ∧ keyD kk = k ∧ DatP Z H d v ∧ DatPK Z H r t
end
end
section
variable {K : PySem.W.Frag} {Z Z' : Pl} {H H' : Hp}
theorem sqT_stp {a : Addr} {xs : List V} (r : Stp Z H Z' H') (n : ¬ Z a ∨ SqT K (fun _ => none) a xs) (h : SqT K H a xs) : SqT K H' a xs := by
  rcases h with h | h
  · rcases n with n | n
    · exact .inl (rd_stp r n h)
    · rcases n with (n | ⟨o, n⟩) | n
      · cases n
      · cases n
      · exact .inr n
  · exact .inr h
theorem nzT_stp {a : Addr} {xs : List V} (r : Stp Z H Z' H') (n : ¬ Z a ∨ SqT K (fun _ => none) a xs) (h : SqT K H a xs) : ¬ Z' a ∨ SqT K (fun _ => none) a xs := by
  rcases n with n | n
  · rcases h with h | h
    · exact .inl (nz_stp r n (rd_some h))
    · exact .inr (.inr h)
  · exact .inr n
mutual
theorem DatP.up (r : Stp Z H Z' H') : ∀ (d : PyData) (v : V), DatP K Z H d v → DatP K Z' H' d v
  | .none, v, h => h
  | .bool _, v, h => h
  | .int _, v, h => h
  | .str _, v, h => h
  | .list ds, v, h => by
    simp only [DatP] at h ⊢
    obtain ⟨a, xs, e, n, s, l⟩ := h
    exact ⟨a, xs, e, nz_stp r n (rd_some s), rd_stp r n s, DatPL.up r ds xs l⟩
  | .tuple ds, v, h => by
    simp only [DatP] at h ⊢
    obtain ⟨a, xs, e, n, s, l⟩ := h
    exact ⟨a, xs, e, nzT_stp r n s, sqT_stp r n s, DatPL.up r ds xs l⟩
  | .dict kvs, v, h => by
    simp only [DatP] at h ⊢
    obtain ⟨a, es, e, n, s, l⟩ := h
    exact ⟨a, es, e, nz_stp r n (by rw [s]; exact fun z => nomatch z), r.keep _ _ n s, DatPK.up r kvs es l⟩
theorem DatPL.up (r : Stp Z H Z' H') : ∀ (ds : List PyData) (vs : List V), DatPL K Z H ds vs → DatPL K Z' H' ds vs
  | [], vs, h => h
  | d :: ds, vs, h => by
    simp only [DatPL] at h ⊢
    obtain ⟨v, q, e, h1, h2⟩ := h
    exact ⟨v, q, e, DatP.up r d v h1, DatPL.up r ds q h2⟩
theorem DatPK.up (r : Stp Z H Z' H') : ∀ (ds : List (PyData × PyData)) (es : List (Key × V)), DatPK K Z H ds es → DatPK K Z' H' ds es
  | [], vs, h => h
  | (k, d) :: ds, vs, h => by
    simp only [DatPK] at h ⊢
    obtain ⟨kk, v, q, e, hk, h1, h2⟩ := h
    exact ⟨kk, v, q, e, hk, DatP.up r d v h1, DatPK.up r ds q h2⟩
end
mutual
theorem DatP.dat : ∀ (d : PyData) (v : V), DatP K Z H d v → Dat K [] H d v
  | .none, v, h => by simpa only [DatP, Dat] using h
  | .bool _, v, h => by simpa only [DatP, Dat] using h
  | .int _, v, h => by simpa only [DatP, Dat] using h
  | .str _, v, h => by simpa only [DatP, Dat] using h
  | .list ds, v, h => by
    simp only [DatP] at h
    simp only [Dat]
    obtain ⟨a, xs, e, n, s, l⟩ := h
    exact ⟨a, xs, e, by simp, s, DatPL.dat ds xs l⟩
  | .tuple ds, v, h => by
    simp only [DatP] at h
    simp only [Dat]
    obtain ⟨a, xs, e, n, s, l⟩ := h
    exact ⟨a, xs, e, .inl (by simp), s, DatPL.dat ds xs l⟩
  | .dict kvs, v, h => by
    simp only [DatP] at h
    simp only [Dat]
    obtain ⟨a, es, e, n, s, l⟩ := h
    exact ⟨a, es, e, by simp, s, DatPK.dat kvs es l⟩
theorem DatPL.dat : ∀ (ds : List PyData) (vs : List V), DatPL K Z H ds vs → DatL K [] H ds vs
  | [], vs, h => by simpa only [DatPL, DatL] using h
  | d :: ds, vs, h => by
    simp only [DatPL] at h
    simp only [DatL]
    obtain ⟨v, q, e, h1, h2⟩ := h
    exact ⟨v, q, e, DatP.dat d v h1, DatPL.dat ds q h2⟩
theorem DatPK.dat : ∀ (ds : List (PyData × PyData)) (es : List (Key × V)), DatPK K Z H ds es → DatK K [] H ds es
  | [], vs, h => by simpa only [DatPK, DatK] using h
  | (k, d) :: ds, vs, h => by
    simp only [DatPK] at h
    simp only [DatK]
    obtain ⟨kk, v, q, e, hk, h1, h2⟩ := h
    exact ⟨kk, v, q, e, hk, DatP.dat d v h1, DatPK.dat ds q h2⟩
end
end

/-! ### a datum: what is true of a value, and stays true -/
structure Dm (K : PySem.W.Frag) where
  at_ : Pl → Hp → V → Prop
  up : ∀ {Z H Z' H' v}, Stp Z H Z' H' → at_ Z H v → at_ Z' H' v
def AtL {K : PySem.W.Frag} (Z : Pl) (H : Hp) : List (Dm K) → List V → Prop
  | [], vs => vs = []
  | d :: ds, vs => ∃ v r, vs = v :: r ∧ d.at_ Z H v ∧ AtL Z H ds r
def AtK {K : PySem.W.Frag} {κ : Type} (Z : Pl) (H : Hp) : List (κ × Dm K) → List (κ × V) → Prop
  | [], vs => vs = []
  | d :: ds, vs => ∃ v r, vs = (d.1, v) :: r ∧ d.2.at_ Z H v ∧ AtK Z H ds r
section
variable {K : PySem.W.Frag} {Z Z' : Pl} {H H' : Hp}
theorem AtL.up (r : Stp Z H Z' H') : ∀ {ds : List (Dm K)} {vs : List V}, AtL Z H ds vs → AtL Z' H' ds vs
  | [], _, h => h
  | d :: ds, _, ⟨v, r', e, h, t⟩ => ⟨v, r', e, d.up r h, AtL.up r t⟩
theorem AtL.length : ∀ {ds : List (Dm K)} {vs : List V}, AtL Z H ds vs → vs.length = ds.length
  | [], _, h => by cases h; rfl
  | d :: ds, _, ⟨v, r', q, h, t⟩ => by rw [q, List.length_cons, List.length_cons, AtL.length t]
theorem AtL.get : ∀ {ds : List (Dm K)} {vs : List V} {i : Nat} {d : Dm K}, AtL Z H ds vs → ds[i]? = some d → ∃ v, vs[i]? = some v ∧ d.at_ Z H v
  | [], _, _, _, _, e => by simp at e
  | d :: ds, _, 0, x, ⟨v, r', q, h, t⟩, e => by simp at e; subst e; subst q; exact ⟨v, rfl, h⟩
  | d :: ds, _, i + 1, x, ⟨v, r', q, h, t⟩, e => by
    subst q
    obtain ⟨u, e1, e2⟩ := AtL.get (i := i) t (by simpa using e)
    exact ⟨u, by simpa using e1, e2⟩
theorem AtL.getV {ds : List (Dm K)} {vs : List V} {i : Nat} {v : V} (h : AtL Z H ds vs) (e : vs[i]? = some v) : ∃ d, ds[i]? = some d ∧ d.at_ Z H v := by
  have hi : i < ds.length := by rw [← h.length]; exact (List.getElem?_eq_some_iff.mp e).1
  obtain ⟨u, e1, e2⟩ := h.get (List.getElem?_eq_getElem hi)
  rw [e] at e1
  cases e1
  exact ⟨_, List.getElem?_eq_getElem hi, e2⟩
theorem AtL.append : ∀ {ds es : List (Dm K)} {vs ws : List V}, AtL Z H ds vs → AtL Z H es ws → AtL Z H (ds ++ es) (vs ++ ws)
  | [], _, _, _, h, g => by cases h; exact g
  | d :: ds, _, _, _, ⟨v, r', q, h, t⟩, g => by subst q; exact ⟨v, _, rfl, h, AtL.append t g⟩
theorem AtL.drop : ∀ {ds : List (Dm K)} {vs : List V} (n : Nat), AtL Z H ds vs → AtL Z H (ds.drop n) (vs.drop n)
  | _, _, 0, h => h
  | [], _, n + 1, h => by cases h; exact rfl
  | d :: ds, _, n + 1, ⟨v, r', q, h, t⟩ => by subst q; exact AtL.drop n t
theorem AtL.take : ∀ {ds : List (Dm K)} {vs : List V} (n : Nat), AtL Z H ds vs → AtL Z H (ds.take n) (vs.take n)
  | _, _, 0, h => rfl
  | [], _, n + 1, h => by cases h; exact rfl
  | d :: ds, _, n + 1, ⟨v, r', q, h, t⟩ => by subst q; exact ⟨v, _, rfl, h, AtL.take n t⟩
theorem AtL.set : ∀ {ds : List (Dm K)} {vs : List V} (i : Nat) {d : Dm K} {v : V}, AtL Z H ds vs → d.at_ Z H v → AtL Z H (ds.set i d) (vs.set i v)
  | [], _, _, _, _, h, _ => by cases h; exact rfl
  | d :: ds, _, 0, _, _, ⟨v, r', q, h, t⟩, g => by subst q; exact ⟨_, _, rfl, g, t⟩
  | d :: ds, _, i + 1, _, _, ⟨v, r', q, h, t⟩, g => by subst q; exact ⟨v, _, rfl, h, AtL.set i t g⟩
theorem AtL.one {d : Dm K} {v : V} (h : d.at_ Z H v) : AtL Z H [d] [v] := ⟨v, [], rfl, h, rfl⟩
variable {κ : Type}
theorem AtK.up (r : Stp Z H Z' H') : ∀ {ds : List (κ × Dm K)} {vs : List (κ × V)}, AtK Z H ds vs → AtK Z' H' ds vs
  | [], _, h => h
  | d :: ds, _, ⟨v, r', e, h, t⟩ => ⟨v, r', e, d.2.up r h, AtK.up r t⟩
theorem AtK.length : ∀ {ds : List (κ × Dm K)} {vs : List (κ × V)}, AtK Z H ds vs → vs.length = ds.length
  | [], _, h => by cases h; rfl
  | d :: ds, _, ⟨v, r', q, h, t⟩ => by rw [q, List.length_cons, List.length_cons, AtK.length t]
theorem AtK.keys : ∀ {ds : List (κ × Dm K)} {vs : List (κ × V)}, AtK Z H ds vs → vs.map (·.1) = ds.map (·.1)
  | [], _, h => by cases h; rfl
  | d :: ds, _, ⟨v, r', q, h, t⟩ => by rw [q, List.map_cons, List.map_cons, AtK.keys t]
/-- what stands under a key -/
def valK [DecidableEq κ] (es : List (κ × Dm K)) (k : κ) : Option (Dm K) := (es.find? fun e => decide (e.1 = k)).map (·.2)
def putD [DecidableEq κ] (es : List (κ × Dm K)) (k : κ) (d : Dm K) : List (κ × Dm K) :=
  if (es.any fun e => decide (e.1 = k)) = true then es.map (fun e => if e.1 = k then (e.1, d) else e) else es ++ [(k, d)]
theorem AtK.val [DecidableEq κ] (k : κ) : ∀ {ds : List (κ × Dm K)} {vs : List (κ × V)}, AtK Z H ds vs →
    (valK ds k = none ∧ valV vs k = none) ∨ ∃ d v, valK ds k = some d ∧ valV vs k = some v ∧ d.at_ Z H v
  | [], _, h => by cases h; exact .inl ⟨rfl, rfl⟩
  | d :: ds, _, ⟨v, r', q, h, t⟩ => by
    subst q
    by_cases e : d.1 = k
    · exact .inr ⟨d.2, v, by simp [valK, List.find?_cons, e], valV_pos e, h⟩
    · rcases AtK.val k t with ⟨a, b⟩ | ⟨x, y, a, b, c⟩
      · exact .inl ⟨by simpa [valK, List.find?_cons, e] using a, by rw [valV_neg e]; exact b⟩
      · exact .inr ⟨x, y, by simpa [valK, List.find?_cons, e] using a, by rw [valV_neg e]; exact b, c⟩
theorem AtK.append : ∀ {ds es : List (κ × Dm K)} {vs ws : List (κ × V)}, AtK Z H ds vs → AtK Z H es ws → AtK Z H (ds ++ es) (vs ++ ws)
  | [], _, _, _, h, g => by cases h; exact g
  | d :: ds, _, _, _, ⟨v, r', q, h, t⟩, g => by subst q; exact ⟨v, _, rfl, h, AtK.append t g⟩
theorem AtK.put [DecidableEq κ] {k : κ} {d : Dm K} {v : V} {ds : List (κ × Dm K)} {vs : List (κ × V)} (h : AtK Z H ds vs) (hd : d.at_ Z H v) : AtK Z H (putD ds k d) (putK vs k v) := by
  have ha : (vs.any fun kv => decide (kv.1 = k)) = (ds.any fun kv => decide (kv.1 = k)) := by
    have e := h.keys
    have a : ∀ l : List (κ × V), (l.any fun kv => decide (kv.1 = k)) = ((l.map (·.1)).any fun x => decide (x = k)) := fun l => by simp [List.any_map, Function.comp_def]
    have b : ∀ l : List (κ × Dm K), (l.any fun kv => decide (kv.1 = k)) = ((l.map (·.1)).any fun x => decide (x = k)) := fun l => by simp [List.any_map, Function.comp_def]
    rw [a, b, e]
  unfold putD putK
  rw [ha]
  split
  · have go : ∀ {ds : List (κ × Dm K)} {vs : List (κ × V)}, AtK Z H ds vs → AtK Z H (ds.map fun e => if e.1 = k then (e.1, d) else e) (vs.map fun kv => if kv.1 = k then (kv.1, v) else kv) := by
      intro ds
      induction ds with
      | nil => intro vs h; cases h; exact rfl
      | cons x ds ih =>
        rintro _ ⟨u, r', rfl, h1, t⟩
        by_cases e : x.1 = k
        · exact ⟨v, _, by simp [e], by simpa [e] using hd, ih t⟩
        · exact ⟨u, _, by simp [e], by simpa [e] using h1, ih t⟩
    exact go h
  · exact h.append ⟨v, [], rfl, hd, rfl⟩
/-- fields of an instance -/
def setF (f : Str) (d : Dm K) : List (Str × Dm K) → List (Str × Dm K)
  | [] => [(f, d)]
  | e :: r => if e.1 = f then (e.1, d) :: r else e :: setF f d r
theorem AtK.setF {f : Str} {d : Dm K} {v : V} (hd : d.at_ Z H v) : ∀ {ds : List (Str × Dm K)} {vs : List (Str × V)}, AtK Z H ds vs → AtK Z H (TL.setF f d ds) (putF f v vs)
  | [], _, h => by cases h; exact ⟨v, [], rfl, hd, rfl⟩
  | x :: ds, _, ⟨u, r', q, h, t⟩ => by
    subst q
    by_cases e : x.1 = f
    · have e1 : TL.setF f d (x :: ds) = (x.1, d) :: ds := by simp [TL.setF, e]
      rw [e1]
      exact ⟨v, r', by simp [putF, e], hd, t⟩
    · have e1 : TL.setF f d (x :: ds) = x :: TL.setF f d ds := by simp [TL.setF, e]
      rw [e1]
      exact ⟨u, putF f v r', by simp [putF, e], h, AtK.setF hd t⟩
theorem AtK.look {f : Str} : ∀ {ds : List (Str × Dm K)} {vs : List (Str × V)}, AtK Z H ds vs → (ds.lookup f = none ∧ vs.lookup f = none) ∨ ∃ d v, ds.lookup f = some d ∧ vs.lookup f = some v ∧ d.at_ Z H v
  | [], _, h => by cases h; exact .inl ⟨rfl, rfl⟩
  | x :: ds, _, ⟨u, r', q, h, t⟩ => by
    subst q
    by_cases e : f = x.1
    · refine .inr ⟨x.2, u, ?_, ?_, h⟩
      · show List.lookup f ((x.1, x.2) :: ds) = _; rw [List.lookup_cons, beq_iff_eq.mpr e]
      · rw [List.lookup_cons, beq_iff_eq.mpr e]
    · have hb : (f == x.1) = false := by simpa using e
      have e1 : List.lookup f (x :: ds) = List.lookup f ds := by show List.lookup f ((x.1, x.2) :: ds) = _; rw [List.lookup_cons, hb]
      have e2 : List.lookup f ((x.1, u) :: r') = List.lookup f r' := by rw [List.lookup_cons, hb]
      rw [e1, e2]
      exact AtK.look t
/-! ### kinds of data -/
def dPy (d : PyData) : Dm K := ⟨fun Z H v => DatP K Z H d v, fun r h => DatP.up r _ _ h⟩
abbrev kI : Int → Dm K := fun i => dPy (.int i)
abbrev kB : Bool → Dm K := fun i => dPy (.bool i)
abbrev kS : Str → Dm K := fun i => dPy (.str i)
abbrev kN : Unit → Dm K := fun _ => dPy .none
abbrev kPy : PyData → Dm K := dPy
/-- a thing of the store -/
def kRef : Addr → Dm K := fun a => ⟨fun _ _ v => v = .ref a, fun _ h => h⟩
/-- the script -/
def kSc : List Int → Dm K := fun ns => ⟨fun Z H v => ∃ a, v = .ref a ∧ (¬ Z a ∨ SqL K (fun _ => none) a (ns.map V.int)) ∧ SqL K H a (ns.map V.int), by
  rintro Z H Z' H' v r ⟨a, e, n, h⟩
  rcases h with h | h
  · rcases n with n | n
    · exact ⟨a, e, .inl (nz_stp r n (rd_some h)), .inl (rd_stp r n h)⟩
    · rcases n with (n | ⟨o, n⟩) | n
      · cases n
      · cases n
      · exact ⟨a, e, .inr (.inr n), .inr n⟩
  · exact ⟨a, e, .inr (.inr h), .inr h⟩⟩
def dL (ds : List (Dm K)) : Dm K := ⟨fun Z H v => ∃ a xs, v = .ref a ∧ ¬ Z a ∧ H a = some (.lst xs) ∧ AtL Z H ds xs,
  fun r ⟨a, xs, e, n, s, l⟩ => ⟨a, xs, e, nz_stp r n (by rw [s]; exact fun z => nomatch z), r.keep _ _ n s, l.up r⟩⟩
def dT (ds : List (Dm K)) : Dm K := ⟨fun Z H v => ∃ a xs, v = .ref a ∧ (¬ Z a ∨ SqT K (fun _ => none) a xs) ∧ SqT K H a xs ∧ AtL Z H ds xs,
  fun r ⟨a, xs, e, n, s, l⟩ => ⟨a, xs, e, nzT_stp r n s, sqT_stp r n s, l.up r⟩⟩
/-- a tuple that was made, of few things -/
def dP (ds : List (Dm K)) : Dm K := ⟨fun Z H v => ∃ a xs, v = .ref a ∧ ¬ Z a ∧ H a = some (.tup xs) ∧ AtL Z H ds xs,
  fun r ⟨a, xs, e, n, s, l⟩ => ⟨a, xs, e, nz_stp r n (by rw [s]; exact fun z => nomatch z), r.keep _ _ n s, l.up r⟩⟩
/-- an instance that never changes -/
def dI (C : Addr) (fs : List (Str × Dm K)) : Dm K := ⟨fun Z H v => ∃ a dx xs, v = .ref a ∧ ¬ Z a ∧ H a = some (.ins C dx xs) ∧ AtK Z H fs xs,
  fun r ⟨a, dx, xs, e, n, s, l⟩ => ⟨a, dx, xs, e, nz_stp r n (by rw [s]; exact fun z => nomatch z), r.keep _ _ n s, l.up r⟩⟩
def kL {α : Type} (r : α → Dm K) : List α → Dm K := fun xs => dL (xs.map r)
def kT {α : Type} (r : α → Dm K) : List α → Dm K := fun xs => dT (xs.map r)
def kP {α β : Type} (r : α → Dm K) (s : β → Dm K) : α × β → Dm K := fun x => dP [r x.1, s x.2]
def AtL.dat {f : α → PyData} {r : α → Dm K} (h : ∀ x Z H v, (r x).at_ Z H v → DatP K Z H (f x) v) : ∀ {xs : List α} {vs : List V}, AtL Z H (xs.map r) vs → DatPL K Z H (xs.map f) vs
  | [], _, e => by cases e; simp only [List.map_nil, DatPL]
  | x :: xs, _, ⟨v, r', q, g, t⟩ => by
    subst q
    simp only [List.map_cons, DatPL]
    exact ⟨v, r', rfl, h x _ _ _ g, AtL.dat h t⟩
/-- a thing of the kind r is one of the kind s, changed by f -/
def Co {α β : Type} (r : α → Dm K) (s : β → Dm K) (f : α → β) : Prop := ∀ x Z H v, (r x).at_ Z H v → (s (f x)).at_ Z H v
theorem co_id {α : Type} {r : α → Dm K} : Co r r id := fun _ _ _ _ h => h
theorem co_I : Co (K := K) kI kPy PyData.int := fun _ _ _ _ h => h
theorem co_B : Co (K := K) kB kPy PyData.bool := fun _ _ _ _ h => h
theorem co_S : Co (K := K) kS kPy PyData.str := fun _ _ _ _ h => h
theorem co_N : Co (K := K) kN kPy fun _ => PyData.none := fun _ _ _ _ h => h
theorem datp_tup {ds : List PyData} {a : Addr} {xs : List V} (n : ¬ Z a ∨ SqT K (fun _ => none) a xs) (h : SqT K H a xs) (l : DatPL K Z H ds xs) : DatP K Z H (.tuple ds) (.ref a) := by
  simp only [DatP]; exact ⟨a, xs, rfl, n, h, l⟩
theorem datp_lst {ds : List PyData} {a : Addr} {xs : List V} (n : ¬ Z a) (h : Rd H a (.lst xs)) (l : DatPL K Z H ds xs) : DatP K Z H (.list ds) (.ref a) := by
  simp only [DatP]; exact ⟨a, xs, rfl, n, h, l⟩
theorem co_LP {α : Type} {r : α → Dm K} {f : α → PyData} (h : Co r kPy f) : Co (kL r) kPy fun xs => .list (xs.map f) := fun xs Z H v ⟨a, ys, e, n, s, l⟩ => by
  subst e
  exact datp_lst n (.inl s) (AtL.dat h l)
theorem co_TP {α : Type} {r : α → Dm K} {f : α → PyData} (h : Co r kPy f) : Co (kT r) kPy fun xs => .tuple (xs.map f) := fun xs Z H v ⟨a, ys, e, n, s, l⟩ => by
  subst e
  exact datp_tup n s (AtL.dat h l)
theorem at_int {i : Int} {v : V} (h : (kI (K := K) i).at_ Z H v) : v = .int i := by simpa only [dPy, DatP] using h
theorem at_bl {i : Bool} {v : V} (h : (kB (K := K) i).at_ Z H v) : v = .bl i := by simpa only [dPy, DatP] using h
theorem at_str {i : Str} {v : V} (h : (kS (K := K) i).at_ Z H v) : v = .str i := by simpa only [dPy, DatP] using h
theorem at_non {i : Unit} {v : V} (h : (kN (K := K) i).at_ Z H v) : v = .non := by simpa only [dPy, DatP] using h
theorem mk_int {i : Int} : (kI (K := K) i).at_ Z H (.int i) := by simp only [dPy, DatP]
theorem mk_bl {i : Bool} : (kB (K := K) i).at_ Z H (.bl i) := by simp only [dPy, DatP]
theorem mk_str {i : Str} : (kS (K := K) i).at_ Z H (.str i) := by simp only [dPy, DatP]
theorem mk_non : (kN (K := K) ()).at_ Z H .non := by simp only [dPy, DatP]
end

/-! ### the store -/
/-- what changes, by its place -/
inductive Cell (K : PySem.W.Frag)
  | pot
  | lst (ds : List (Dm K))
  | dic (es : List (Key × Dm K))
  | dct (es : List (List Key × Dm K))
  | tab (q : Str)
  | ins (C : Addr) (fs : List (Str × Dm K))
def CellOk {K : PySem.W.Frag} (Z : Pl) (H : Hp) (a : Addr) : Cell K → Prop
  | .pot => Pot a H
  | .lst ds => ∃ vs, H a = some (.lst vs) ∧ AtL Z H ds vs
  | .dic es => ∃ vs, H a = some (.dK vs) ∧ AtK Z H es vs
  | .dct es => ∃ vs, H a = some (.dT vs) ∧ AtK Z H es vs
  | .tab q => ∃ ps : Array Value, H a = some (.tbl ps) ∧ TriplesOk ps.toList ∧ ∀ (pos : Pos) (cv : Value), codeAmong pos ps.toList = some cv → ∃ c, cv = .ref c ∧ ¬ Z c ∧ H c = some (LamX.CodeO c q)
  | .ins C fs => ∃ dx vs, H a = some (.ins C dx vs) ∧ AtK Z H fs vs
abbrev Store (K : PySem.W.Frag) := Addr → Option (Cell K)
def Store.set {K : PySem.W.Frag} (S : Store K) (a : Addr) (c : Cell K) : Store K := fun b => if b = a then some c else S b
def Store.del {K : PySem.W.Frag} (S : Store K) (a : Addr) : Store K := fun b => if b = a then none else S b
def Zd {K : PySem.W.Frag} (S : Store K) (F : Pl) : Pl := fun a => S a ≠ none ∨ F a
section
variable {K : PySem.W.Frag} {S S' S'' : Store K} {F : Pl} {Z Z' : Pl} {H H' H'' : Hp} {a b : Addr} {c c' : Cell K}
theorem set_same : S.set a c a = some c := by simp [Store.set]
theorem set_ne (h : b ≠ a) : S.set a c b = S b := by simp [Store.set, h]
theorem del_same : S.del a a = none := by simp [Store.del]
theorem del_ne (h : b ≠ a) : S.del a b = S b := by simp [Store.del, h]
theorem set_set : (S.set a c).set a c' = S.set a c' := by funext b; unfold Store.set; split <;> rfl
theorem set_del : (S.set a c).del a = S.del a := by
  funext b; unfold Store.set Store.del
  by_cases e : b = a
  · simp [e]
  · simp [e]
theorem del_none (h : S a = none) : S.del a = S := by
  funext b; unfold Store.del; split
  · next e => rw [e, h]
  · rfl
theorem CellOk.up (r : Stp Z H Z' H') (hH : ∀ o, H a = some o → H' a = some o) : ∀ {c : Cell K}, CellOk Z H a c → CellOk Z' H' a c
  | .pot, ⟨x, y, e, q⟩ => ⟨x, y, hH _ e, q⟩
  | .lst _, ⟨vs, e, l⟩ => ⟨vs, hH _ e, l.up r⟩
  | .dic _, ⟨vs, e, l⟩ => ⟨vs, hH _ e, l.up r⟩
  | .dct _, ⟨vs, e, l⟩ => ⟨vs, hH _ e, l.up r⟩
  | .tab _, ⟨ps, e, t, g⟩ => ⟨ps, hH _ e, t, fun pos cv h => by
    obtain ⟨c, e1, n, e2⟩ := g pos cv h
    exact ⟨c, e1, nz_stp r n (by rw [e2]; exact fun z => nomatch z), r.keep _ _ n e2⟩⟩
  | .ins _ _, ⟨dx, vs, e, l⟩ => ⟨dx, vs, hH _ e, l.up r⟩
theorem CellOk.some : ∀ {c : Cell K}, CellOk Z H a c → ∃ o, H a = some o ∧ ∀ x u, o ≠ .frz x u
  | .pot, ⟨x, y, e, q⟩ => ⟨_, e, fun _ _ z => nomatch z⟩
  | .lst _, ⟨vs, e, l⟩ => ⟨_, e, fun _ _ z => nomatch z⟩
  | .dic _, ⟨vs, e, l⟩ => ⟨_, e, fun _ _ z => nomatch z⟩
  | .dct _, ⟨vs, e, l⟩ => ⟨_, e, fun _ _ z => nomatch z⟩
  | .tab _, ⟨ps, e, t, g⟩ => ⟨_, e, fun _ _ z => nomatch z⟩
  | .ins _ _, ⟨dx, vs, e, l⟩ => ⟨_, e, fun _ _ z => nomatch z⟩
end
/-- a list or dict that is being made -/
def Raw (H : Hp) (a : Addr) : Prop := (∃ xs, H a = some (.lst xs)) ∨ (∃ xs, H a = some (.dK xs)) ∨ ∃ xs, H a = some (.dT xs)
structure Wd {K : PySem.W.Frag} (S : Store K) (F : Pl) (H : Hp) : Prop where
  one : One H
  cell : ∀ a c, S a = some c → CellOk (Zd S F) H a c
  foc : ∀ a, F a → Raw H a
  dis : ∀ a, F a → S a = none
/-- a step: what is no thing of the store stays -/
structure Stq {K : PySem.W.Frag} (S : Store K) (H : Hp) (S' : Store K) (H' : Hp) : Prop where
  keep : ∀ b o, S b = none → H b = some o → H' b = some o
  dom : ∀ b, S' b ≠ none → S b ≠ none ∨ H b = none
  occ : ∀ b, H b ≠ none → H' b ≠ none
structure Nxt {K : PySem.W.Frag} (S : Store K) (F : Pl) (H : Hp) (S' : Store K) (H' : Hp) : Prop where
  st : Stq S H S' H'
  wd : Wd S' F H'
section
variable {K : PySem.W.Frag} {S S1 S2 S' S'' : Store K} {F F' : Pl} {Z Z' : Pl} {H H1 H2 H' H'' : Hp} {a b n : Addr} {c c' : Cell K}
theorem Raw.some (h : Raw H a) : ∃ o, H a = some o ∧ ∀ x u, o ≠ .frz x u := by
  rcases h with ⟨x, h⟩ | ⟨x, h⟩ | ⟨x, h⟩ <;> exact ⟨_, h, fun _ _ z => nomatch z⟩
theorem Raw.keep (h : Raw H a) (k : ∀ o, H a = .some o → H' a = .some o) : Raw H' a := by
  rcases h with ⟨x, h⟩ | ⟨x, h⟩ | ⟨x, h⟩
  · exact .inl ⟨x, k _ h⟩
  · exact .inr (.inl ⟨x, k _ h⟩)
  · exact .inr (.inr ⟨x, k _ h⟩)
theorem Wd.zsome (w : Wd S F H) (z : Zd S F a) : ∃ o, H a = some o ∧ ∀ x u, o ≠ .frz x u := by
  rcases z with z | z
  · cases e : S a with
    | none => exact absurd e z
    | some c => exact (w.cell a c e).some
  · exact (w.foc a z).some
theorem Wd.free (w : Wd S F H) (h : H n = none) : ¬ Zd S F n := fun z => by
  obtain ⟨o, e, _⟩ := w.zsome z
  rw [h] at e; cases e
theorem Wd.sfree (w : Wd S F H) (h : H n = none) : S n = none := by
  cases e : S n with
  | none => rfl
  | some c => exact absurd (.inl (by rw [e]; exact fun z => nomatch z)) (w.free h)
theorem Wd.sys (w : Wd S F H) : ¬ Zd S F sysModules := fun z => by
  obtain ⟨o, e, q⟩ := w.zsome z
  obtain ⟨x, u, e2⟩ := w.one
  rw [e2] at e; cases e
  exact q _ _ rfl
theorem Stq.refl : Stq S H S H := ⟨fun _ _ _ e => e, fun _ h => .inl h, fun _ h => h⟩
theorem Stq.trans (a : Stq S H S1 H1) (b : Stq S1 H1 S2 H2) : Stq S H S2 H2 :=
  ⟨fun c o n e => b.keep c o (by
      cases q : S1 c with
      | none => rfl
      | some x => exact ((a.dom c (by rw [q]; exact fun z => nomatch z)).elim (fun z => absurd n z) fun z => by rw [e] at z; cases z)) (a.keep c o n e),
   fun c h => (b.dom c h).elim (a.dom c) fun z => by
      cases e : H c with
      | none => exact .inr rfl
      | some o => exact absurd z (a.occ c (by rw [e]; exact fun w => nomatch w)),
   fun c h => b.occ c (a.occ c h)⟩
theorem Stq.stp (r : Stq S H S' H') : Stp (Zd S F) H (Zd S' F) H' :=
  ⟨fun b o n e => r.keep b o (by
      cases q : S b with
      | none => rfl
      | some c => exact absurd (.inl (by rw [q]; exact fun z => nomatch z)) n) e,
   fun b z => z.elim (fun h => (r.dom b h).imp .inl id) fun h => .inl (.inr h)⟩
theorem Stq.one (r : Stq S H S' H') (w : Wd S F H) : One H' := by
  obtain ⟨o, u, e⟩ := w.one
  refine ⟨o, u, r.keep _ _ ?_ e⟩
  cases q : S sysModules with
  | none => rfl
  | some c => exact absurd (.inl (by rw [q]; exact fun z => nomatch z)) w.sys
theorem Nxt.refl (w : Wd S F H) : Nxt S F H S H := ⟨.refl, w⟩
theorem Nxt.trans (a : Nxt S F H S1 H1) (b : Nxt S1 F H1 S2 H2) : Nxt S F H S2 H2 := ⟨a.st.trans b.st, b.wd⟩
theorem Nxt.stp (r : Nxt S F H S' H') : Stp (Zd S F) H (Zd S' F) H' := r.st.stp
theorem Nxt.up (r : Nxt S F H S' H') {d : Dm K} {v : V} (h : d.at_ (Zd S F) H v) : d.at_ (Zd S' F) H' v := d.up r.stp h
theorem Nxt.upL (r : Nxt S F H S' H') {d : List (Dm K)} {v : List V} (h : AtL (Zd S F) H d v) : AtL (Zd S' F) H' d v := h.up r.stp
/-- a new thing, of no store -/
theorem Wd.new (w : Wd S F H) (h : H n = none) {o : HO} : Nxt S F H S (upd H n o) := by
  have k : ∀ b u, H b = some u → upd H n o b = some u := fun b u e => by rw [upd_ne (ne_of_none e h)]; exact e
  refine ⟨⟨fun b u _ e => k b u e, fun _ z => .inl z, fun b z => ?_⟩, ⟨?_, fun a c e => (w.cell a c e).up (Stp.new h) (k a), fun a z => (w.foc a z).keep (k a), w.dis⟩⟩
  · cases e : H b with
    | none => exact absurd e z
    | some u => rw [k b u e]; exact fun w => nomatch w
  · obtain ⟨x, u, e⟩ := w.one
    exact ⟨x, u, k _ _ e⟩
/-- a new thing of the store -/
theorem Wd.newS (w : Wd S F H) (h : H n = none) {o : HO} {c : Cell K} (ok : CellOk (Zd (S.set n c) F) (upd H n o) n c) : Nxt S F H (S.set n c) (upd H n o) := by
  have k : ∀ b u, H b = some u → upd H n o b = some u := fun b u e => by rw [upd_ne (ne_of_none e h)]; exact e
  have st : Stp (Zd S F) H (Zd (S.set n c) F) (upd H n o) := ⟨fun b u _ e => k b u e, fun b z => z.elim (fun z => by
    by_cases e : b = n
    · subst e; exact .inr h
    · rw [set_ne e] at z; exact .inl (.inl z)) fun z => .inl (.inr z)⟩
  refine ⟨⟨fun b u _ e => k b u e, fun b z => ?_, fun b z => ?_⟩, ⟨?_, fun a c' e => ?_, fun a z => (w.foc a z).keep (k a), fun a z => ?_⟩⟩
  · by_cases e : b = n
    · subst e; exact .inr h
    · rw [set_ne e] at z; exact .inl z
  · cases e : H b with
    | none => exact absurd e z
    | some u => rw [k b u e]; exact fun w => nomatch w
  · obtain ⟨x, u, e⟩ := w.one
    exact ⟨x, u, k _ _ e⟩
  · by_cases q : a = n
    · subst q; rw [set_same] at e; cases e; exact ok
    · rw [set_ne q] at e; exact (w.cell a c' e).up st (k a)
  · have q : a ≠ n := fun q => by
      obtain ⟨o, e, _⟩ := (w.foc a z).some
      subst q; rw [h] at e; cases e
    rw [set_ne q]; exact w.dis a z
/-- a thing of the store is changed -/
theorem Wd.putS (w : Wd S F H) {c0 : Cell K} (h : S a = some c0) {o : HO} {c : Cell K} (ok : CellOk (Zd S F) (upd H a o) a c) : Nxt S F H (S.set a c) (upd H a o) := by
  have zz : Zd (S.set a c) F = Zd S F := by
    funext b
    unfold Zd
    by_cases e : b = a
    · subst e; rw [set_same, h]; simp
    · rw [set_ne e]
  have st : Stp (Zd S F) H (Zd S F) (upd H a o) := Stp.put (.inl (by rw [h]; exact fun z => nomatch z))
  have far : ∀ b u, b ≠ a → H b = some u → upd H a o b = some u := fun b u n e => by rw [upd_ne n]; exact e
  refine ⟨⟨fun b u n e => far b u (fun q => by subst q; rw [h] at n; cases n) e, fun b z => ?_, fun b z => ?_⟩, ⟨?_, fun b c' e => ?_, fun b z => (w.foc b z).keep fun u e => far b u (fun q => by subst q; rw [w.dis _ z] at h; cases h) e, fun b z => ?_⟩⟩
  · by_cases e : b = a
    · subst e; exact .inl (by rw [h]; exact fun w => nomatch w)
    · rw [set_ne e] at z; exact .inl z
  · by_cases e : b = a
    · subst e; rw [upd_same]; exact fun w => nomatch w
    · rw [upd_ne e]; exact z
  · obtain ⟨x, u, e⟩ := w.one
    exact ⟨x, u, far _ _ (fun q => w.sys (.inl (by rw [q, h]; exact fun w => nomatch w))) e⟩
  · rw [zz]
    by_cases q : b = a
    · subst q; rw [set_same] at e; cases e; exact ok
    · rw [set_ne q] at e; exact (w.cell b c' e).up st fun u e => far b u q e
  · have q : b ≠ a := fun q => by rw [q] at z; rw [w.dis _ z] at h; cases h
    rw [set_ne q]; exact w.dis b z
/-- a thing of the store never changes again -/
theorem Wd.delS (w : Wd S F H) : Nxt S F H (S.del a) H := by
  have sub : ∀ b, S.del a b ≠ none → S b ≠ none := fun b z => by
    by_cases e : b = a
    · subst e; rw [del_same] at z; exact absurd rfl z
    · rw [del_ne e] at z; exact z
  refine ⟨⟨fun b u _ e => e, fun b z => .inl (sub b z), fun b z => z⟩, ⟨w.one, fun b c' e => ?_, w.foc, fun b z => ?_⟩⟩
  · have q : b ≠ a := fun q => by subst q; rw [del_same] at e; cases e
    rw [del_ne q] at e
    exact (w.cell b c' e).up (Stp.less fun x z => z.imp (sub x) id) fun _ e => e
  · by_cases e : b = a
    · subst e; exact del_same
    · rw [del_ne e]; exact w.dis b z
theorem Wd.del_at (w : Wd S F H) {c : Cell K} (h : S a = some c) : ¬ Zd (S.del a) F a := fun z => z.elim (fun z => z del_same) fun z => by rw [w.dis a z] at h; cases h
/-- less is being made -/
theorem Wd.lessF (w : Wd S F H) (h : ∀ a, F' a → F a) : Wd S F' H :=
  ⟨w.one, fun a c e => (w.cell a c e).up (Stp.less fun x z => z.imp id (h x)) fun _ e => e, fun a z => w.foc a (h a z), fun a z => w.dis a (h a z)⟩
theorem Zd.lessF {d : Dm K} {v : V} (h : ∀ a, F' a → F a) (q : d.at_ (Zd S F) H v) : d.at_ (Zd S F') H v := d.up (Stp.less fun x z => z.imp id (h x)) q
/-- a list begins to be made -/
theorem Wd.moreF (w : Wd S F H) {o : HO} (h : H n = none) (r : Raw (upd H n o) n) : Wd S (fun b => F b ∨ b = n) (upd H n o) := by
  have k : ∀ b u, H b = some u → upd H n o b = some u := fun b u e => by rw [upd_ne (ne_of_none e h)]; exact e
  have st : Stp (Zd S F) H (Zd S fun b => F b ∨ b = n) (upd H n o) := ⟨fun b u _ e => k b u e, fun b z => z.elim (fun z => .inl (.inl z)) fun z => z.elim (fun z => .inl (.inr z)) fun z => .inr (z ▸ h)⟩
  refine ⟨?_, fun a c e => (w.cell a c e).up st (k a), fun a z => z.elim (fun z => (w.foc a z).keep (k a)) fun z => z ▸ r, fun a z => z.elim (w.dis a) fun z => z ▸ w.sfree h⟩
  obtain ⟨x, u, e⟩ := w.one
  exact ⟨x, u, k _ _ e⟩
theorem Stp.moreF (w : Wd S F H) {o : HO} (h : H n = none) : Stp (Zd S F) H (Zd S fun b => F b ∨ b = n) (upd H n o) :=
  ⟨fun b u _ e => by rw [upd_ne (ne_of_none e h)]; exact e, fun b z => z.elim (fun z => .inl (.inl z)) fun z => z.elim (fun z => .inl (.inr z)) fun z => .inr (z ▸ h)⟩
/-- the list that is being made grows -/
theorem Wd.putF (w : Wd S F H) {o : HO} (h : F n) (r : Raw (upd H n o) n) : Wd S F (upd H n o) := by
  have far : ∀ b u, b ≠ n → H b = some u → upd H n o b = some u := fun b u m e => by rw [upd_ne m]; exact e
  have st : Stp (Zd S F) H (Zd S F) (upd H n o) := Stp.put (.inr h)
  refine ⟨?_, fun a c e => (w.cell a c e).up st fun u q => far a u (fun z => by subst z; rw [w.dis _ h] at e; cases e) q, fun a z => ?_, w.dis⟩
  · obtain ⟨x, u, e⟩ := w.one
    exact ⟨x, u, far _ _ (fun q => w.sys (.inr (q ▸ h))) e⟩
  · by_cases e : a = n
    · subst e; exact r
    · exact (w.foc a z).keep fun u q => far a u e q
end

/-! ### wishes -/
/-- an error: its class, its fields as they stand in its dict -/
abbrev Err (K : PySem.W.Frag) := Addr × List (Str × Dm K)
def W (K : PySem.W.Frag) (α : Type) := (α → Store K → Prop) → (Err K → Store K → Prop) → Store K → Prop
section
variable {K : PySem.W.Frag} {α β : Type}
def ret (x : α) : W K α := fun Q _ S => Q x S
def bnd (m : W K α) (k : α → W K β) : W K β := fun Q E S => m (fun x S' => k x Q E S') E S
def wRaise (e : Err K) : W K α := fun _ E S => E e S
/-- what must hold here -/
def wAss (c : Prop) (m : W K α) : W K α := fun Q E S => c ∧ m Q E S
def wIf (b : Bool) (m n : W K α) : W K α := fun Q E S => if b = true then m Q E S else n Q E S
/-- no error may leave -/
def wCalm (m : W K α) : W K α := fun Q _ S => m Q (fun _ _ => False) S
end
inductive Flow (S ρ : Type)
  | nx (s : S)
  | bk (s : S)
  | rt (x : ρ)
def ErrAt {K : PySem.W.Frag} (e : Err K) (Z : Pl) (H : Hp) (c : Value) (d : Option Addr) : Prop :=
  c = .ref e.1 ∧ ∃ b kvs, d = some b ∧ ¬ Z b ∧ H b = some (.xd kvs) ∧ AtK Z H e.2 kvs
theorem ErrAt.up {K : PySem.W.Frag} {e : Err K} {Z Z' : Pl} {H H' : Hp} {c : Value} {d : Option Addr} (r : Stp Z H Z' H') (h : ErrAt e Z H c d) : ErrAt e Z' H' c d :=
  let ⟨h1, b, kvs, h2, h3, h4, h5⟩ := h
  ⟨h1, b, kvs, h2, nz_stp r h3 (by rw [h4]; exact fun z => nomatch z), r.keep _ _ h3 h4, h5.up r⟩

/-! ### what stands in the slots -/
abbrev Gm (K : PySem.W.Frag) := List (Option (Dm K))
structure Sat {K : PySem.W.Frag} (G : Gm K) (Z : Pl) (H : Hp) (σ : L2.St) : Prop where
  len : σ.length = G.length
  slot : ∀ (i : Nat) (d : Dm K), G[i]? = some (some d) → ∃ v, σ[i]? = some (some v) ∧ d.at_ Z H v
section
variable {K : PySem.W.Frag} {Z Z' : Pl} {H H' : Hp} {G : Gm K} {σ : L2.St}
theorem Sat.up (h : Sat G Z H σ) (r : Stp Z H Z' H') : Sat G Z' H' σ := ⟨h.len, fun i d e => let ⟨v, e1, e2⟩ := h.slot i d e; ⟨v, e1, d.up r e2⟩⟩
theorem Sat.set {i : Nat} {d : Dm K} {v : V} (h : Sat G Z H σ) (hd : d.at_ Z H v) : Sat (G.set i (some d)) Z H (σ.set i (some v)) := by
  refine ⟨by simp [h.len], fun j e hj => ?_⟩
  rw [List.getElem?_set] at hj
  by_cases z : i = j
  · subst z
    rw [if_pos rfl] at hj
    by_cases l : i < G.length
    · rw [if_pos l] at hj
      cases hj
      exact ⟨v, by rw [List.getElem?_set, if_pos rfl, if_pos (by rw [h.len]; exact l)], hd⟩
    · rw [if_neg l] at hj; cases hj
  · rw [if_neg z] at hj
    obtain ⟨u, e1, e2⟩ := h.slot j e hj
    exact ⟨u, by rw [List.getElem?_set, if_neg z]; exact e1, e2⟩
theorem Sat.wipe1 {i : Nat} (h : Sat G Z H σ) : Sat (G.set i none) Z H (σ.set i none) := by
  refine ⟨by simp [h.len], fun j e hj => ?_⟩
  rw [List.getElem?_set] at hj
  by_cases z : i = j
  · subst z
    rw [if_pos rfl] at hj
    split at hj <;> cases hj
  · rw [if_neg z] at hj
    obtain ⟨u, e1, e2⟩ := h.slot j e hj
    exact ⟨u, by rw [List.getElem?_set, if_neg z]; exact e1, e2⟩
def gwipe (G : Gm K) : List Nat → Gm K
  | [] => G
  | v :: vs => (gwipe G vs).set v none
theorem Sat.wipe (h : Sat G Z H σ) : ∀ vs : List Nat, Sat (gwipe G vs) Z H (L2.wipe σ vs)
  | [] => h
  | v :: vs => (Sat.wipe h vs).wipe1
/-- the slots hold no less than b asks -/
inductive Wk : Gm K → Gm K → Prop
  | nil : Wk [] []
  | no {a b x} : Wk a b → Wk (x :: a) (Option.none :: b)
  | so {a b d} : Wk a b → Wk (Option.some d :: a) (Option.some d :: b)
theorem Wk.len {a b : Gm K} (h : Wk a b) : a.length = b.length := by
  induction h with
  | nil => rfl
  | no _ ih => simp [ih]
  | so _ ih => simp [ih]
theorem Wk.get {a b : Gm K} (h : Wk a b) : ∀ (i : Nat) (d : Dm K), b[i]? = some (some d) → a[i]? = some (some d) := by
  induction h with
  | nil => intro i d e; simp at e
  | no _ ih =>
    intro i d e
    cases i with
    | zero => simp at e
    | succ i => simpa using ih i d (by simpa using e)
  | so _ ih =>
    intro i d e
    cases i with
    | zero => simpa using e
    | succ i => simpa using ih i d (by simpa using e)
theorem Sat.wk {G' : Gm K} (h : Sat G Z H σ) (k : Wk G G') : Sat G' Z H σ := ⟨by rw [h.len, k.len], fun i d q => h.slot i d (k.get i d q)⟩
end
end TL

set_option Elab.async false
set_option linter.all false
set_option maxRecDepth 100000
set_option maxHeartbeats 2000000
/-! PcT: a reading follows a wish: expressions, calls. -/
namespace TL
open PySem PySem.Spec PyProof.Rows L2 PC

section
variable {K : PySem.W.Frag}
/-- errors are taken by ε -/
def HanE (ε : WX) (S : Store K) (F : Pl) (H : Hp) (σ : L2.St) (Ep : Err K → Store K → Prop) : Prop :=
  ∀ e S' H' c d, Ep e S' → Nxt S F H S' H' → ErrAt e (Zd S' F) H' c d → ε c d σ H'
def Sim (ε : WX) (G : Gm K) (te : TE) {α : Type} (r : α → Dm K) (m : W K α) : Prop :=
  ∀ S F σ H (Q : VK) (Qp : α → Store K → Prop) (Ep : Err K → Store K → Prop), Wd S F H → Sat G (Zd S F) H σ → m Qp Ep S →
    (∀ x S' H' v, Qp x S' → Nxt S F H S' H' → (r x).at_ (Zd S' F) H' v → Q v H') → HanE ε S F H σ Ep → te σ H Q
def SimB (ε : WX) (G : Gm K) (tt : TT) (m : W K Bool) : Prop :=
  ∀ S F σ H (Q : Bool → Hp → Prop) (Qp : Bool → Store K → Prop) (Ep : Err K → Store K → Prop), Wd S F H → Sat G (Zd S F) H σ → m Qp Ep S →
    (∀ x S' H', Qp x S' → Nxt S F H S' H' → Q x H') → HanE ε S F H σ Ep → tt σ H Q
def SimA (ε : WX) (G : Gm K) (ta : TA) {τ : Type} (δ : τ → List (Dm K)) (m : W K τ) : Prop :=
  ∀ S F σ H (Q : List V → Hp → Prop) (Qp : τ → Store K → Prop) (Ep : Err K → Store K → Prop), Wd S F H → Sat G (Zd S F) H σ → m Qp Ep S →
    (∀ x S' H' vs, Qp x S' → Nxt S F H S' H' → AtL (Zd S' F) H' (δ x) vs → Q vs H') → HanE ε S F H σ Ep → ta σ H Q
variable {ε : WX} {G : Gm K} {α β γ τ : Type} {S S1 : Store K} {F : Pl} {H H1 : Hp} {σ : L2.St}
theorem HanE.to {Ep : Err K → Store K → Prop} (h : HanE ε S F H σ Ep) (r : Nxt S F H S1 H1) : HanE ε S1 F H1 σ Ep :=
  fun e S' H' c d he hr => h e S' H' c d he (r.trans hr)
theorem hanE_no : HanE (K := K) ε S F H σ (fun _ _ => False) := fun _ _ _ _ _ z => z.elim
theorem wIf_t {b : Bool} {m n : W K α} {Q : α → Store K → Prop} {E : Err K → Store K → Prop} (h : wIf true m n Q E S) : m Q E S := by unfold wIf at h; rw [if_pos rfl] at h; exact h
theorem wIf_f {b : Bool} {m n : W K α} {Q : α → Store K → Prop} {E : Err K → Store K → Prop} (h : wIf false m n Q E S) : n Q E S := by unfold wIf at h; rw [if_neg (by decide)] at h; exact h
/-! ### expressions -/
theorem sim_var {i : Nat} {r : α → Dm K} {x : α} (h : G[i]? = some (some (r x))) : Sim ε G (tVar i) r (ret x) := by
  intro S F σ H Q Qp Ep w s hm hQ _
  obtain ⟨v, e, hv⟩ := s.slot i _ h
  exact ⟨v, e, hQ x S H v hm (.refl w) hv⟩
theorem sim_i {i : Int} : Sim ε G (tC (.int i)) kI (ret i) := fun S F σ H Q Qp Ep w s hm hQ _ => hQ _ S H _ hm (.refl w) mk_int
theorem sim_s {i : Str} : Sim ε G (tC (.str i)) kS (ret i) := fun S F σ H Q Qp Ep w s hm hQ _ => hQ _ S H _ hm (.refl w) mk_str
theorem sim_b {i : Bool} : Sim ε G (tC (.bl i)) kB (ret i) := fun S F σ H Q Qp Ep w s hm hQ _ => hQ _ S H _ hm (.refl w) mk_bl
theorem sim_n : Sim ε G (tC .non) kN (ret ()) := fun S F σ H Q Qp Ep w s hm hQ _ => hQ _ S H _ hm (.refl w) mk_non
/-- one of a kind as one of another -/
theorem sim_co {te : TE} {r : α → Dm K} {s : β → Dm K} {f : α → β} {m : W K α} (h : Sim ε G te r m) (c : Co r s f) : Sim ε G te s (bnd m fun x => ret (f x)) :=
  fun S F σ H Q Qp Ep w sa hm hQ hE => h S F σ H Q _ Ep w sa hm (fun x S' H' v hx rr ha => hQ (f x) S' H' v hx rr (c _ _ _ _ ha)) hE
def OpS (K : PySem.W.Frag) (r : R2) {α β γ : Type} (r1 : α → Dm K) (r2 : β → Dm K) (r3 : γ → Dm K) (f : α → β → W K γ) : Prop :=
  ∀ S F H x y v w Q (Qp : γ → Store K → Prop) (Ep : Err K → Store K → Prop), Wd S F H → (r1 x).at_ (Zd S F) H v → (r2 y).at_ (Zd S F) H w → f x y Qp Ep S →
    (∀ z S' H' u, Qp z S' → Nxt S F H S' H' → (r3 z).at_ (Zd S' F) H' u → Q u H') → r v w H Q
theorem sim_op {r : R2} {ta tb : TE} {r1 : α → Dm K} {r2 : β → Dm K} {r3 : γ → Dm K} {ma : W K α} {mb : W K β} {f : α → β → W K γ}
    (o : OpS K r r1 r2 r3 f) (a : Sim ε G ta r1 ma) (b : Sim ε G tb r2 mb) : Sim ε G (tOp r ta tb) r3 (bnd ma fun x => bnd mb fun y => f x y) := by
  intro S F σ H Q Qp Ep w s hm hQ hE
  refine a S F σ H _ _ Ep w s hm (fun x S1 H1 v hx h1 hv => ?_) hE
  refine b S1 F σ H1 _ _ Ep h1.wd (s.up h1.stp) hx (fun y S2 H2 u hy h2 hu => ?_) (hE.to h1)
  exact o S2 F H2 x y v u Q _ Ep h2.wd (h2.up hv) hu hy (fun z S' H' t hz h3 ht => hQ z S' H' t hz (h1.trans (h2.trans h3)) ht)
def UnS (K : PySem.W.Frag) (r : V → Hp → VK → Prop) {α γ : Type} (r1 : α → Dm K) (r3 : γ → Dm K) (f : α → W K γ) : Prop :=
  ∀ S F H x v Q (Qp : γ → Store K → Prop) (Ep : Err K → Store K → Prop), Wd S F H → (r1 x).at_ (Zd S F) H v → f x Qp Ep S → (∀ z S' H' u, Qp z S' → Nxt S F H S' H' → (r3 z).at_ (Zd S' F) H' u → Q u H') → r v H Q
theorem sim_un {r : V → Hp → VK → Prop} {ta : TE} {r1 : α → Dm K} {r3 : γ → Dm K} {ma : W K α} {f : α → W K γ}
    (o : UnS K r r1 r3 f) (a : Sim ε G ta r1 ma) : Sim ε G (tUn r ta) r3 (bnd ma f) := by
  intro S F σ H Q Qp Ep w s hm hQ hE
  refine a S F σ H _ _ Ep w s hm (fun x S1 H1 v hx h1 hv => ?_) hE
  exact o S1 F H1 x v Q _ Ep h1.wd hv hx (fun z S' H' t hz h3 ht => hQ z S' H' t hz (h1.trans h3) ht)
/-! tests -/
theorem simB_test {te : TE} {m : W K Bool} (h : Sim ε G te kB m) : SimB ε G (tTest te) m := by
  intro S F σ H Q Qp Ep w s hm hQ hE
  exact h S F σ H _ _ Ep w s hm (fun x S' H' v hx hr hv => ⟨x, at_bl hv, hQ x S' H' hx hr⟩) hE
theorem simB_B {te : TE} {m : W K Bool} (h : Sim ε G te kB m) : SimB ε G (tB te) m := by
  intro S F σ H Q Qp Ep w s hm hQ hE
  exact h S F σ H _ _ Ep w s hm (fun x S' H' v hx hr hv => ⟨x, at_bl hv, hQ x S' H' hx hr⟩) hE
theorem simB_not {t : TT} {m : W K Bool} (h : SimB ε G t m) : SimB ε G (tNot t) (bnd m fun b => ret (!b)) :=
  fun S F σ H Q Qp Ep w s hm hQ hE => h S F σ H _ _ Ep w s hm (fun x S' H' hx hr => hQ _ S' H' hx hr) hE
theorem simB_or {t u : TT} {m n : W K Bool} (h : SimB ε G t m) (g : SimB ε G u n) : SimB ε G (tOr t u) (bnd m fun b => wIf b (ret true) n) := by
  intro S F σ H Q Qp Ep w s hm hQ hE
  refine h S F σ H _ _ Ep w s hm (fun x S1 H1 hx h1 => ?_) hE
  cases x with
  | false => exact iteF (g S1 F σ H1 _ _ Ep h1.wd (s.up h1.stp) (wIf_f (b := true) hx) (fun y S' H' hy h2 => hQ y S' H' hy (h1.trans h2)) (hE.to h1))
  | true => exact iteT (hQ true S1 H1 (wIf_t (b := true) hx) h1)
theorem simB_yes : SimB ε G tYes (ret true) := fun S F σ H Q Qp Ep w s hm hQ hE => hQ true S H hm (.refl w)
theorem sim_andV {t u : TE} {m n : W K Bool} (h : Sim ε G t kB m) (g : Sim ε G u kB n) : Sim ε G (tAndV t u) kB (bnd m fun b => wIf b n (ret false)) := by
  intro S F σ H Q Qp Ep w s hm hQ hE
  refine h S F σ H _ _ Ep w s hm (fun x S1 H1 v hx h1 hv => ⟨x, at_bl hv, ?_⟩) hE
  cases x with
  | true => exact iteT (g S1 F σ H1 _ _ Ep h1.wd (s.up h1.stp) (wIf_t (b := true) hx) (fun y S' H' v hy h2 hv => hQ y S' H' v hy (h1.trans h2) hv) (hE.to h1))
  | false => exact iteF (hQ false S1 H1 _ (wIf_f (b := true) hx) h1 mk_bl)
theorem sim_notV {t : TE} {m : W K Bool} (h : Sim ε G t kB m) : Sim ε G (tNotV t) kB (bnd m fun b => ret (!b)) :=
  fun S F σ H Q Qp Ep w s hm hQ hE => h S F σ H _ _ Ep w s hm (fun x S' H' v hx hr hv => ⟨x, at_bl hv, hQ _ S' H' _ hx hr mk_bl⟩) hE
theorem sim_if {c : TT} {t u : TE} {r : α → Dm K} {mc : W K Bool} {m n : W K α} (hc : SimB ε G c mc) (h : Sim ε G t r m) (g : Sim ε G u r n) :
    Sim ε G (tIf c t u) r (bnd mc fun b => wIf b m n) := by
  intro S F σ H Q Qp Ep w s hm hQ hE
  refine hc S F σ H _ _ Ep w s hm (fun x S1 H1 hx h1 => ?_) hE
  cases x with
  | true => exact iteT (h S1 F σ H1 _ _ Ep h1.wd (s.up h1.stp) (wIf_t (b := true) hx) (fun y S' H' v hy h2 hv => hQ y S' H' v hy (h1.trans h2) hv) (hE.to h1))
  | false => exact iteF (g S1 F σ H1 _ _ Ep h1.wd (s.up h1.stp) (wIf_f (b := true) hx) (fun y S' H' v hy h2 hv => hQ y S' H' v hy (h1.trans h2) hv) (hE.to h1))
/-- a < b < c and its like -/
theorem sim_chain {r r' : R2} {ta tb tc : TE} {r1 : α → Dm K} {r2 : β → Dm K} {r3 : γ → Dm K} {ma : W K α} {mb : W K β} {mc : W K γ} {f : α → β → W K Bool} {g : β → γ → W K Bool}
    (o : OpS K r r1 r2 kB f) (o' : OpS K r' r2 r3 kB g) (a : Sim ε G ta r1 ma) (b : Sim ε G tb r2 mb) (c : Sim ε G tc r3 mc) :
    Sim ε G (tChain r r' ta tb tc) kB (bnd ma fun x => bnd mb fun y => bnd (f x y) fun k => wIf k (bnd mc fun z => g y z) (ret false)) := by
  intro S F σ H Q Qp Ep w s hm hQ hE
  refine a S F σ H _ _ Ep w s hm (fun x S1 H1 v hx h1 hv => ?_) hE
  refine b S1 F σ H1 _ _ Ep h1.wd (s.up h1.stp) hx (fun y S2 H2 u hy h2 hu => ?_) (hE.to h1)
  refine o S2 F H2 x y v u _ _ Ep h2.wd (h2.up hv) hu hy (fun k S3 H3 t hk h3 ht => ⟨k, at_bl ht, ?_⟩)
  have h13 := h1.trans (h2.trans h3)
  cases k with
  | true =>
    refine iteT (c S3 F σ H3 _ _ Ep h3.wd (s.up h13.stp) (by have q := hk; unfold wIf at q; rw [if_pos rfl] at q; exact q) (fun z S4 H4 t2 hz h4 ht2 => ?_) (hE.to h13))
    exact o' S4 F H4 y z u t2 Q _ Ep h4.wd ((h3.trans h4).up hu) ht2 hz (fun b S' H' t3 hb h5 ht3 => hQ b S' H' t3 hb (h13.trans (h4.trans h5)) ht3)
  | false => exact iteF (hQ false S3 H3 _ (wIf_f (b := true) hk) h13 mk_bl)
/-! ### arguments, displays -/
theorem simA_nil : SimA ε G tNil (fun _ : Unit => []) (ret ()) := fun S F σ H Q Qp Ep w s hm hQ hE => hQ () S H [] hm (.refl w) rfl
theorem simA_cons {te : TE} {tr : TA} {r : α → Dm K} {δ : τ → List (Dm K)} {m : W K α} {n : W K τ} (a : Sim ε G te r m) (b : SimA ε G tr δ n) :
    SimA ε G (tCons te tr) (fun x : α × τ => r x.1 :: δ x.2) (bnd m fun x => bnd n fun y => ret (x, y)) := by
  intro S F σ H Q Qp Ep w s hm hQ hE
  refine a S F σ H _ _ Ep w s hm (fun x S1 H1 v hx h1 hv => ?_) hE
  refine b S1 F σ H1 _ _ Ep h1.wd (s.up h1.stp) hx (fun y S2 H2 vs hy h2 hvs => ?_) (hE.to h1)
  exact hQ (x, y) S2 H2 _ hy (h1.trans h2) ⟨v, vs, rfl, h2.up hv, hvs⟩
theorem new_lst {ds : List (Dm K)} {vs : List V} {Q : VK} (w : Wd S F H) (h : AtL (Zd S F) H ds vs) (q : ∀ H' v, Nxt S F H S H' → (dL ds).at_ (Zd S F) H' v → Q v H') :
    ∀ n, H n = none → Q (.ref n) (upd H n (.lst vs)) := fun n hn =>
  q _ _ (w.new hn) ⟨n, vs, rfl, w.free hn, upd_same, h.up (Stp.new hn)⟩
theorem new_tup {ds : List (Dm K)} {vs : List V} {Q : VK} (w : Wd S F H) (h : AtL (Zd S F) H ds vs) (q : ∀ H' v, Nxt S F H S H' → (dP ds).at_ (Zd S F) H' v → Q v H') :
    ∀ n, H n = none → Q (.ref n) (upd H n (.tup vs)) := fun n hn =>
  q _ _ (w.new hn) ⟨n, vs, rfl, w.free hn, upd_same, h.up (Stp.new hn)⟩
theorem dP_dT {ds : List (Dm K)} {Z : Pl} {v : V} (h : (dP ds).at_ Z H v) : (dT ds).at_ Z H v :=
  let ⟨a, xs, e, n, q, l⟩ := h
  ⟨a, xs, e, .inl n, .inl (.inl q), l⟩
theorem sim_lstK {tr : TA} {δ : τ → List (Dm K)} {n : W K τ} {r : α → Dm K} (f : τ → List α) (e : ∀ y, δ y = (f y).map r) (hl : ∀ y, (f y).length ≤ 50000) (h : SimA ε G tr δ n) : Sim ε G (tLst tr) (kL r) (bnd n fun y => ret (f y)) := by
  intro S F σ H Q Qp Ep w s hm hQ hE
  refine h S F σ H _ _ Ep w s hm (fun x S1 H1 vs hx h1 hvs => ⟨sl_of (by rw [hvs.length, e, List.length_map]; exact hl x), ?_⟩) hE
  exact new_lst h1.wd hvs fun H' v h2 hv => hQ _ S1 H' v hx (h1.trans h2) (by rw [e] at hv; exact hv)
theorem sim_tupK {tr : TA} {δ : τ → List (Dm K)} {n : W K τ} {r : α → Dm K} (f : τ → List α) (e : ∀ y, δ y = (f y).map r) (hl : ∀ y, (f y).length ≤ 50000) (h : SimA ε G tr δ n) : Sim ε G (tTup tr) (kT r) (bnd n fun y => ret (f y)) := by
  intro S F σ H Q Qp Ep w s hm hQ hE
  refine h S F σ H _ _ Ep w s hm (fun x S1 H1 vs hx h1 hvs => ⟨sl_of (by rw [hvs.length, e, List.length_map]; exact hl x), ?_⟩) hE
  exact new_tup h1.wd hvs fun H' v h2 hv => hQ _ S1 H' v hx (h1.trans h2) (by rw [e] at hv; exact dP_dT hv)
/-- a tuple of few things: r tells it by f -/
theorem sim_tup {tr : TA} {δ : τ → List (Dm K)} {n : W K τ} {r : α → Dm K} {f : τ → α} (h : SimA ε G tr δ n) (e : ∀ y, r (f y) = dP (δ y)) (hl : ∀ y, (δ y).length ≤ 50000) :
    Sim ε G (tTup tr) r (bnd n fun y => ret (f y)) := by
  intro S F σ H Q Qp Ep w s hm hQ hE
  refine h S F σ H _ _ Ep w s hm (fun x S1 H1 vs hx h1 hvs => ⟨sl_of (by rw [hvs.length]; exact hl x), ?_⟩) hE
  exact new_tup h1.wd hvs fun H' v h2 hv => hQ _ S1 H' v hx (h1.trans h2) (by rw [e]; exact hv)
/-- a list display as a new thing of the store -/
def wNew (c : Cell K) : W K Addr := fun Q _ S => ∀ a, S a = none → Q a (S.set a c)
/-! ### calls -/
def CalS (ε : WX) (r : L2.St → List V → Hp → VK → Prop) {τ α : Type} (δ : τ → List (Dm K)) (r3 : α → Dm K) (w : τ → W K α) : Prop :=
  ∀ S F σ H x vs Q (Qp : α → Store K → Prop) (Ep : Err K → Store K → Prop), Wd S F H → AtL (Zd S F) H (δ x) vs → w x Qp Ep S → (∀ y S' H' v, Qp y S' → Nxt S F H S' H' → (r3 y).at_ (Zd S' F) H' v → Q v H') →
    HanE ε S F H σ Ep → r σ vs H Q
def CalKS (ε : WX) (r : L2.St → List V → List V → Hp → VK → Prop) {τ κ α : Type} (δ : τ → List (Dm K)) (δk : κ → List (Dm K)) (r3 : α → Dm K) (w : τ → κ → W K α) : Prop :=
  ∀ S F σ H x y vs zs Q (Qp : α → Store K → Prop) (Ep : Err K → Store K → Prop), Wd S F H → AtL (Zd S F) H (δ x) vs → AtL (Zd S F) H (δk y) zs → w x y Qp Ep S → (∀ y S' H' v, Qp y S' → Nxt S F H S' H' → (r3 y).at_ (Zd S' F) H' v → Q v H') →
    HanE ε S F H σ Ep → r σ vs zs H Q
theorem sim_call {r : L2.St → List V → Hp → VK → Prop} {ta : TA} {δ : τ → List (Dm K)} {r3 : α → Dm K} {w : τ → W K α} {ma : W K τ}
    (c : CalS ε r δ r3 w) (a : SimA ε G ta δ ma) : Sim ε G (tCS r ta) r3 (bnd ma w) := by
  intro S F σ H Q Qp Ep wd s hm hQ hE
  refine a S F σ H _ _ Ep wd s hm (fun x S1 H1 vs hx h1 hvs => ?_) hE
  exact c S1 F σ H1 x vs Q _ Ep h1.wd hvs hx (fun y S' H' v hy h2 hv => hQ y S' H' v hy (h1.trans h2) hv) (hE.to h1)
/-- a built-in's rule -/
def CalB (K : PySem.W.Frag) (r : List V → Hp → VK → Prop) {τ α : Type} (δ : τ → List (Dm K)) (r3 : α → Dm K) (w : τ → W K α) : Prop :=
  ∀ S F H x vs Q (Qp : α → Store K → Prop) (Ep : Err K → Store K → Prop), Wd S F H → AtL (Zd S F) H (δ x) vs → w x Qp Ep S → (∀ y S' H' v, Qp y S' → Nxt S F H S' H' → (r3 y).at_ (Zd S' F) H' v → Q v H') → r vs H Q
theorem sim_callB {r : List V → Hp → VK → Prop} {ta : TA} {δ : τ → List (Dm K)} {r3 : α → Dm K} {w : τ → W K α} {ma : W K τ}
    (c : CalB K r δ r3 w) (a : SimA ε G ta δ ma) : Sim ε G (tCB r ta) r3 (bnd ma w) := by
  intro S F σ H Q Qp Ep wd s hm hQ hE
  refine a S F σ H _ _ Ep wd s hm (fun x S1 H1 vs hx h1 hvs => ?_) hE
  exact c S1 F H1 x vs Q _ _ h1.wd hvs hx (fun y S' H' v hy h2 hv => hQ y S' H' v hy (h1.trans h2) hv)
theorem sim_callK {r : L2.St → List V → List V → Hp → VK → Prop} {ta tk : TA} {κ : Type} {δ : τ → List (Dm K)} {δk : κ → List (Dm K)} {r3 : α → Dm K} {w : τ → κ → W K α} {ma : W K τ} {mk : W K κ}
    (c : CalKS ε r δ δk r3 w) (a : SimA ε G ta δ ma) (k : SimA ε G tk δk mk) : Sim ε G (tCKS r ta tk) r3 (bnd ma fun x => bnd mk fun y => w x y) := by
  intro S F σ H Q Qp Ep wd s hm hQ hE
  refine a S F σ H _ _ Ep wd s hm (fun x S1 H1 vs hx h1 hvs => ?_) hE
  refine k S1 F σ H1 _ _ Ep h1.wd (s.up h1.stp) hx (fun y S2 H2 zs hy h2 hzs => ?_) (hE.to h1)
  have h12 := h1.trans h2
  exact c S2 F σ H2 x y vs zs Q _ Ep h2.wd (h2.upL hvs) hzs hy (fun y S' H' v hy h3 hv => hQ y S' H' v hy (h12.trans h3) hv) (hE.to h12)
/-- what a thing is as the receiver of a method m of C -/
def Rcv (K : PySem.W.Frag) {β : Type} (r1 : β → Dm K) (C : Addr) (m : Str) (g : β → Store K → Prop) : Prop :=
  ∀ S F H x v, Wd S F H → (r1 x).at_ (Zd S F) H v → g x S → ∃ a dx fs, v = .ref a ∧ H a = some (.ins C dx fs) ∧ fs.lookup m = none
def wRcv {K : PySem.W.Frag} {α : Type} (g : Store K → Prop) (m : W K α) : W K α := fun Q E S => g S ∧ m Q E S
/-- an instance that never changes -/
theorem rcv_I {fs : β → List (Str × Dm K)} {r1 : β → Dm K} {C : Addr} {m : Str} (e : ∀ x, r1 x = dI C (fs x)) (l : ∀ x, (fs x).lookup m = none) : Rcv K r1 C m fun _ _ => True := by
  intro S F H x v w h _
  rw [e] at h
  obtain ⟨a, dx, vs, e1, _, e2, q⟩ := h
  refine ⟨a, dx, vs, e1, e2, ?_⟩
  rcases q.look (f := m) with ⟨_, h⟩ | ⟨d, u, h1, _⟩
  · exact h
  · rw [l] at h1; cases h1
theorem sim_ms {m : Str} {C : Addr} {r : L2.St → List V → Hp → VK → Prop} {to : TE} {ta : TA} {r1 : β → Dm K} {δ : τ → List (Dm K)} {r3 : α → Dm K} {w : β × τ → W K α} {mo : W K β} {ma : W K τ} {g : β → Store K → Prop}
    (c : CalS ε r (fun x : β × τ => r1 x.1 :: δ x.2) r3 w) (i : Rcv K r1 C m g) (o : Sim ε G to r1 mo) (a : SimA ε G ta δ ma) :
    Sim ε G (tMS m C r to ta) r3 (bnd mo fun x => wRcv (g x) (bnd ma fun y => w (x, y))) := by
  intro S F σ H Q Qp Ep wd s hm hQ hE
  refine o S F σ H _ _ Ep wd s hm (fun x S1 H1 v hx h1 hv => ?_) hE
  obtain ⟨hg, hx⟩ := hx
  obtain ⟨b, dx, fs, e1, e2, e3⟩ := i _ _ _ _ _ h1.wd hv hg
  refine ⟨b, dx, fs, e1, e2, e3, ?_⟩
  refine a S1 F σ H1 _ _ Ep h1.wd (s.up h1.stp) hx (fun y S2 H2 vs hy h2 hvs => ?_) (hE.to h1)
  have h12 := h1.trans h2
  exact c S2 F σ H2 (x, y) (v :: vs) Q _ Ep h2.wd ⟨v, vs, rfl, h2.up hv, hvs⟩ hy (fun y S' H' v hy h3 hv => hQ y S' H' v hy (h12.trans h3) hv) (hE.to h12)
/-- a def's promise, from what it computes -/
def lift (K : PySem.W.Frag) {τ α : Type} (δ : τ → List (Dm K)) (r : α → Dm K) (w : τ → W K α) : Sp := fun vs H Q E => ∃ S F x Qp Ep, Wd S F H ∧ AtL (Zd S F) H (δ x) vs ∧
  w x Qp Ep S ∧ (∀ y S' H' v, Qp y S' → Nxt S F H S' H' → (r y).at_ (Zd S' F) H' v → Q v H') ∧ (∀ e S' H' c d, Ep e S' → Nxt S F H S' H' → ErrAt e (Zd S' F) H' c d → E c d H')
theorem cal_lift {δ : τ → List (Dm K)} {r3 : α → Dm K} {w : τ → W K α} :
    CalS ε (fun σ vs H Q => lift K δ r3 w (vs ++ []) H Q (fun c d H => ε c d σ H)) δ r3 w :=
  fun S F σ H x vs Q Qp Ep wd h hw hQ hE => ⟨S, F, x, Qp, Ep, wd, by rw [List.append_nil]; exact h, hw, hQ, hE⟩
theorem cal_liftK {κ τ' : Type} {δ : τ → List (Dm K)} {δk : κ → List (Dm K)} {δ' : τ' → List (Dm K)} {r3 : α → Dm K} {w : τ' → W K α} {gV : List V → List V → List V} (g : τ → κ → τ')
    (e : ∀ Z H x y vs zs, AtL Z H (δ x) vs → AtL Z H (δk y) zs → AtL Z H (δ' (g x y)) (gV vs zs)) :
    CalKS ε (fun σ vs zs H Q => lift K δ' r3 w (gV vs zs) H Q (fun c d H => ε c d σ H)) δ δk r3 (fun x y => w (g x y)) :=
  fun S F σ H x y vs zs Q Qp Ep wd h hk hw hQ hE => ⟨S, F, g x y, Qp, Ep, wd, e _ _ _ _ _ _ h hk, hw, hQ, hE⟩
/-! ### instances made -/
/-- C(..): an instance of the store, then __init__ -/
def wMk {K : PySem.W.Frag} {τ : Type} (C : Addr) (w : Addr × τ → W K Unit) (x : τ) : W K Addr := fun Q E S => ∀ a, S a = none → w (a, x) (fun _ S' => Q a S') (fun e S' => E e (S'.del a)) (S.set a (.ins C []))
theorem made_at {C : Addr} {a dx : Addr} (w : Wd S F H) (ha : H a = none) (hd : H dx = none) (n : dx ≠ a) :
    Nxt S F H (S.set a (.ins C [])) (upd (upd H dx (.own a)) a (.ins C dx [])) := by
  have h1 : Nxt S F H S (upd H dx (.own a)) := w.new hd
  have ha' : upd H dx (.own a) a = none := by rw [upd_ne n.symm]; exact ha
  exact h1.trans (h1.wd.newS ha' ⟨dx, [], upd_same, rfl⟩)
theorem cal_mk {C : Addr} {δ : τ → List (Dm K)} {w : Addr × τ → W K Unit} :
    CalS ε (mkSp C (lift K (fun x : Addr × τ => kRef x.1 :: δ x.2) kN w) [] ε) δ kRef (wMk C w) := by
  intro S F σ H x vs Q Qp Ep wd h hw hQ hE a dx ha hd n
  have nx := made_at (C := C) wd ha hd n
  refine ⟨S.set a (.ins C []), F, (a, x), _, _, nx.wd, ?_, hw a (wd.sfree ha), fun y S' H' v hq h2 hv => ⟨at_non hv, ?_⟩, fun e S' H' c d he h2 hk => ?_⟩
  · rw [List.append_nil]
    exact ⟨.ref a, vs, rfl, rfl, nx.upL h⟩
  · exact hQ a S' H' _ hq (nx.trans h2) rfl
  · have h3 := nx.trans (h2.trans (h2.wd.delS (a := a)))
    exact hE e _ H' c d he h3 (hk.up (Stp.less fun b z => z.imp (fun z => by
      by_cases e : b = a
      · subst e; rw [del_same] at z; exact absurd rfl z
      · rw [del_ne e] at z; exact z) id))
theorem cal_mkK {κ τ' : Type} {C : Addr} {δ : τ → List (Dm K)} {δk : κ → List (Dm K)} {δ' : τ' → List (Dm K)} {w : Addr × τ' → W K Unit} {gV : List V → List V → List V} (g : τ → κ → τ')
    (e : ∀ Z H x y vs zs (v : V), AtL Z H (δ x) vs → AtL Z H (δk y) zs → ∃ us, gV (v :: vs) zs = v :: us ∧ AtL Z H (δ' (g x y)) us) :
    CalKS ε (mkSpK C (lift K (fun x : Addr × τ' => kRef x.1 :: δ' x.2) kN w) gV ε) δ δk kRef (fun x y => wMk C w (g x y)) := by
  intro S F σ H x y vs zs Q Qp Ep wd h hk hw hQ hE a dx ha hd' n
  have nx := made_at (C := C) wd ha hd' n
  refine ⟨S.set a (.ins C []), F, (a, g x y), _, _, nx.wd, ?_, hw a (wd.sfree ha), fun y S' H' v hq h2 hv => ⟨at_non hv, ?_⟩, fun e S' H' c d he h2 hk => ?_⟩
  · obtain ⟨us, e1, e2⟩ := e _ _ x y vs zs (.ref a) (nx.upL h) (nx.upL hk)
    rw [e1]
    exact ⟨.ref a, us, rfl, rfl, e2⟩
  · exact hQ a S' H' _ hq (nx.trans h2) rfl
  · have h3 := nx.trans (h2.trans (h2.wd.delS (a := a)))
    exact hE e _ H' c d he h3 (hk.up (Stp.less fun b z => z.imp (fun z => by
      by_cases e : b = a
      · subst e; rw [del_same] at z; exact absurd rfl z
      · rw [del_ne e] at z; exact z) id))
/-- an instance of the store never changes again -/
def wFrz {α : Type} (C : Addr) (fs : α → List (Str × Dm K)) (a : Addr) : W K α := fun Q _ S => ∃ x, S a = some (.ins C (fs x)) ∧ Q x (S.del a)
theorem sim_frz {te : TE} {m : W K Addr} {C : Addr} {fs : α → List (Str × Dm K)} {r : α → Dm K} (e : ∀ x, r x = dI C (fs x)) (h : Sim ε G te kRef m) : Sim ε G te r (bnd m (wFrz C fs)) := by
  intro S F σ H Q Qp Ep w s hm hQ hE
  refine h S F σ H _ _ Ep w s hm (fun a S1 H1 v hx h1 hv => ?_) hE
  obtain ⟨x, ea, hq⟩ := hx
  cases (show v = .ref a from hv)
  obtain ⟨dx, vs, e1, l⟩ := h1.wd.cell a _ ea
  have nx : Nxt S1 F H1 (S1.del a) H1 := h1.wd.delS (a := a)
  refine hQ x _ H1 _ hq (h1.trans nx) ?_
  rw [e]
  exact ⟨a, dx, vs, rfl, h1.wd.del_at ea, e1, l.up nx.stp⟩
/-- a list of the store never changes again -/
def wFrzL {α : Type} (r : α → Dm K) (a : Addr) : W K (List α) := fun Q _ S => ∃ xs, S a = some (.lst (xs.map r)) ∧ Q xs (S.del a)
theorem sim_frzL {te : TE} {m : W K Addr} {r : α → Dm K} (h : Sim ε G te kRef m) : Sim ε G te (kL r) (bnd m (wFrzL r)) := by
  intro S F σ H Q Qp Ep w s hm hQ hE
  refine h S F σ H _ _ Ep w s hm (fun a S1 H1 v hx h1 hv => ?_) hE
  obtain ⟨x, ea, hq⟩ := hx
  cases (show v = .ref a from hv)
  obtain ⟨vs, e1, l⟩ := h1.wd.cell a _ ea
  have nx : Nxt S1 F H1 (S1.del a) H1 := h1.wd.delS (a := a)
  exact hQ x _ H1 _ hq (h1.trans nx) ⟨a, vs, rfl, h1.wd.del_at ea, e1, l.up nx.stp⟩
/-! ### fields -/
/-- of an instance that never changes -/
theorem sim_fld {ta : TE} {C : Addr} {f : Str} {r : α → Dm K} {s : β → Dm K} {fs : α → List (Str × Dm K)} (g : α → β) {m : W K α} (e : ∀ x, r x = dI C (fs x)) (l : ∀ x, (fs x).lookup f = some (s (g x))) (c : Cls K C) (n : NoAttr K C f) (h : Sim ε G ta r m) :
    Sim ε G (tFld K ta f) s (bnd m fun x => ret (g x)) := by
  intro S F σ H Q Qp Ep w sa hm hQ hE
  refine h S F σ H _ _ Ep w sa hm (fun x S1 H1 v hx h1 hv => ?_) hE
  rw [e] at hv
  obtain ⟨a, dx, vs, e1, _, e2, q⟩ := hv
  rcases q.look (f := f) with ⟨z, _⟩ | ⟨d, u, z1, z2, z3⟩
  · rw [l] at z; cases z
  · rw [l] at z1; cases z1
    exact ⟨a, C, dx, vs, u, e1, e2, c, n, z2, hQ _ S1 H1 u hx h1 z3⟩
/-- of an instance of the store -/
def wGetF {β : Type} (C : Addr) (f : Str) (s : β → Dm K) (a : Addr) : W K β := fun Q _ S => ∃ fs x, S a = some (.ins C fs) ∧ fs.lookup f = some (s x) ∧ Q x S
theorem sim_fldC {ta : TE} {C : Addr} {f : Str} {s : β → Dm K} {m : W K Addr} (c : Cls K C) (n : NoAttr K C f) (h : Sim ε G ta kRef m) : Sim ε G (tFld K ta f) s (bnd m (wGetF C f s)) := by
  intro S F σ H Q Qp Ep w sa hm hQ hE
  refine h S F σ H _ _ Ep w sa hm (fun a S1 H1 v hx h1 hv => ?_) hE
  obtain ⟨fs, x, ea, l, hq⟩ := hx
  cases (show v = .ref a from hv)
  obtain ⟨dx, vs, e2, q⟩ := h1.wd.cell a _ ea
  rcases q.look (f := f) with ⟨z, _⟩ | ⟨d, u, z1, z2, z3⟩
  · rw [l] at z; cases z
  · rw [l] at z1; cases z1
    exact ⟨a, C, dx, vs, u, rfl, e2, c, n, z2, hQ _ S1 H1 u hq h1 z3⟩
end
end TL

set_option Elab.async false
set_option linter.all false
set_option maxRecDepth 100000
set_option maxHeartbeats 2000000
/-! PcU: loops' heads, targets, comprehensions. -/
namespace TL
open PySem PySem.Spec PyProof.Rows L2 PC

section
variable {K : PySem.W.Frag} {ε : WX} {G : Gm K} {α β γ τ S' ρ : Type} {S S1 : Store K} {F : Pl} {H H1 : Hp}
/-- no wish of the store at each turn -/
def nI {K : PySem.W.Frag} : Store K → Prop := fun _ => True
/-- F, or F and a list that is being made -/
def Fx (F : Pl) (H1 : Hp) (F' : Pl) : Prop := F' = F ∨ ∃ D, H1 D = none ∧ F' = fun b => F b ∨ b = D
/-- n turns over xs, while I is true of the store -/
structure Iter (S1 : Store K) (F : Pl) (J : It) {α : Type} (xs : List α) (r : α → Dm K) (I : Store K → Prop) (H1 : Hp) : Prop where
  ex : ∃ (G : Hp → Prop) (Y : Nat → Hp → V → Hp → Prop), Walk J xs.length G Y ∧ ∀ F' S2 H2, Fx F H1 F' → Stp (Zd S1 F) H1 (Zd S2 F') H2 → Wd S2 F' H2 → I S2 → G H2 ∧
    ∀ i v H3 x, Y i H2 v H3 → xs[i]? = some x → Nxt S2 F' H2 S2 H3 ∧ (r x).at_ (Zd S2 F') H3 v
def SimI (ε : WX) (G : Gm K) (wi : TI) {α : Type} (r : α → Dm K) (m : W K (List α × (Store K → Prop))) : Prop :=
  ∀ S F σ H (RI : It → Hp → Prop) (Qp : List α × (Store K → Prop) → Store K → Prop) (Ep : Err K → Store K → Prop), Wd S F H → Sat G (Zd S F) H σ → m Qp Ep S →
    (∀ xs I J S' H', Qp (xs, I) S' → Nxt S F H S' H' → Iter S' F J xs r I H' → RI J H') → HanE ε S F H σ Ep → wi σ H RI
theorem atL_at {r : α → Dm K} {xs : List α} {vs : List V} {i : Nat} {v : V} {x : α} {Z : Pl} (l : AtL Z H (xs.map r) vs) (e : vs[i]? = some v) (ex : xs[i]? = some x) : (r x).at_ Z H v := by
  obtain ⟨d, e1, e2⟩ := l.getV e
  rw [List.getElem?_map, ex] at e1
  cases e1
  exact e2
theorem iter_yat {J : It} {xs : List α} {r : α → Dm K} {vs : List V} {I : Store K → Prop} {Gi : Hp → Prop} (w : Walk J xs.length Gi (YAt vs)) (l : AtL (Zd S1 F) H1 (xs.map r) vs)
    (hG : ∀ F' S2 H2, Fx F H1 F' → Stp (Zd S1 F) H1 (Zd S2 F') H2 → Wd S2 F' H2 → I S2 → Gi H2) : Iter S1 F J xs r I H1 := by
  refine ⟨Gi, _, w, fun F' S2 H2 hf st w2 i2 => ⟨hG F' S2 H2 hf st w2 i2, ?_⟩⟩
  rintro i v H3 x ⟨rfl, e⟩ ex
  exact ⟨.refl w2, atL_at (l.up st) e ex⟩
theorem iter_list {a : Addr} {xs : List α} {r : α → Dm K} {vs : List V} (n : ¬ Zd S1 F a) (h : Rd H1 a (.lst vs)) (l : AtL (Zd S1 F) H1 (xs.map r) vs) : Iter S1 F (Itl K a) xs r nI H1 := by
  have hl : vs.length = xs.length := by rw [l.length, List.length_map]
  exact iter_yat (hl ▸ walk_list (K := K) (a := a) (xs := vs)) l fun F' S2 H2 _ st _ _ => .inl (rd_stp st n h)
theorem iter_tup {a : Addr} {xs : List α} {r : α → Dm K} {vs : List V} (n : ¬ Zd S1 F a ∨ SqT K (fun _ => none) a vs) (h : SqT K H1 a vs) (l : AtL (Zd S1 F) H1 (xs.map r) vs) : Iter S1 F (Itt K a) xs r nI H1 := by
  have hl : vs.length = xs.length := by rw [l.length, List.length_map]
  exact iter_yat (hl ▸ walk_tup (K := K) (a := a) (xs := vs)) l fun F' S2 H2 _ st _ _ => sqT_stp st n h
theorem simI_tup {te : TE} {r : α → Dm K} {m : W K (List α)} (h : Sim ε G te (kT r) m) : SimI ε G (iTup K te) r (bnd m fun xs => ret (xs, nI)) := by
  intro S F σ H RI Qp Ep w s hm hQ hE
  refine h S F σ H _ _ Ep w s hm (fun xs S' H' v hx hr hv => ?_) hE
  obtain ⟨a, vs, rfl, n, hs, l⟩ := hv
  exact ⟨a, rfl, ⟨vs, hs⟩, hQ xs _ _ S' H' hx hr (iter_tup n hs l)⟩
/-- what a list of the store holds -/
def wPk {β : Type} (r : α → Dm K) (a : Addr) (k : List α → W K β) : W K β := fun Q E S => ∃ xs, S a = some (.lst (xs.map r)) ∧ k xs Q E S
/-- a range, as a list -/
def rng (a b : Int) : List Int := (List.range (b - a).toNat).map fun i : Nat => a + (i : Int)
theorem rng_len (a b : Int) : (rng a b).length = (b - a).toNat := by simp [rng]
theorem iter_rng {a b : Int} {n : Nat} (hn : n = (b - a).toNat) : Iter S1 F (Itr a n) (rng a b) (kI (K := K)) nI H1 := by
  subst hn
  refine ⟨fun _ => True, YFn fun i => .int (a + i), by rw [rng_len]; exact walk_range, fun F' S2 H2 hf st w2 i2 => ⟨trivial, ?_⟩⟩
  rintro i v H3 x ⟨rfl, e⟩ ex
  refine ⟨.refl w2, ?_⟩
  subst e
  have hi := (List.getElem?_eq_some_iff.mp ex).1
  rw [rng_len] at hi
  unfold rng at ex
  rw [List.getElem?_map, List.getElem?_range hi] at ex
  obtain rfl := Option.some.inj ex
  exact mk_int
theorem simI_r1 {ta : TA} {m : W K (Int × Unit)} (h : SimA ε G ta (fun x : Int × Unit => [kI x.1]) m) :
    SimI ε G (iRng1 ta) kI (bnd m fun x => wAss (-(2 ^ 62) ≤ x.1 ∧ x.1 < 2 ^ 62) (ret (rng 0 x.1, nI))) := by
  intro S F σ H RI Qp Ep w s hm hQ hE
  refine h S F σ H _ _ Ep w s hm (fun x S' H' vs hx hr hv => ?_) hE
  obtain ⟨v, t, rfl, q, rfl⟩ := hv
  obtain rfl := at_int q
  exact ⟨x.1, rfl, hx.1.1, hx.1.2, hQ _ _ _ S' H' hx.2 hr (iter_rng (by simp))⟩
theorem simI_r2 {ta : TA} {m : W K (Int × Int × Unit)} (h : SimA ε G ta (fun x : Int × Int × Unit => [kI x.1, kI x.2.1]) m) :
    SimI ε G (iRng2 ta) kI (bnd m fun x => wAss (-(2 ^ 62) ≤ x.1 ∧ x.1 < 2 ^ 62 ∧ -(2 ^ 62) ≤ x.2.1 ∧ x.2.1 < 2 ^ 62) (ret (rng x.1 x.2.1, nI))) := by
  intro S F σ H RI Qp Ep w s hm hQ hE
  refine h S F σ H _ _ Ep w s hm (fun x S' H' vs hx hr hv => ?_) hE
  obtain ⟨v, t, rfl, q, v2, t2, rfl, q2, rfl⟩ := hv
  obtain rfl := at_int q
  obtain rfl := at_int q2
  exact ⟨x.1, x.2.1, rfl, hx.1, hQ _ _ _ S' H' hx.2 hr (iter_rng rfl)⟩
theorem iter_pair {J : It} {r : α → Dm K} {s : β → Dm K} {f g : Nat → Option V} {Gi : Hp → Prop} (zs : List (α × β)) (w : Walk J zs.length Gi (YPair f g))
    (h : ∀ (F' : Pl) (S2 : Store K) (H2 : Hp), Fx F H1 F' → Stp (Zd S1 F) H1 (Zd S2 F') H2 → Wd S2 F' H2 → Gi H2 ∧ (∀ i v z, f i = some v → zs[i]? = some z → (r z.1).at_ (Zd S2 F') H2 v) ∧ ∀ i v z, g i = some v → zs[i]? = some z → (s z.2).at_ (Zd S2 F') H2 v) :
    Iter S1 F J zs (kP r s) nI H1 := by
  refine ⟨Gi, _, w, fun F' S2 H2 hf st w2 _ => ?_⟩
  obtain ⟨hG, hx, hy⟩ := h F' S2 H2 hf st w2
  refine ⟨hG, ?_⟩
  rintro i v H3 z ⟨T, x, y, rfl, hT, rfl, h1, h2⟩ ez
  have nx : Nxt S2 F' H2 S2 (upd H2 T (.tup [x, y])) := w2.new hT
  exact ⟨nx, T, [x, y], rfl, w2.free hT, upd_same, x, [y], rfl, nx.up (hx i x z h1 ez), y, [], rfl, nx.up (hy i y z h2 ez), rfl⟩
theorem zip_get {xs : List α} {ys : List β} {i : Nat} {z : α × β} (h : (xs.zip ys)[i]? = some z) : xs[i]? = some z.1 ∧ ys[i]? = some z.2 := by
  rw [List.getElem?_zip_eq_some] at h
  exact h
theorem simI_zip {ta : TA} {r : α → Dm K} {s : β → Dm K} {m : W K (List α × List β × Unit)} (h : SimA ε G ta (fun x : List α × List β × Unit => [kL r x.1, kL s x.2.1]) m) :
    SimI ε G (RZ.iZipA K ta) (kP r s) (bnd m fun x => ret (x.1.zip x.2.1, nI)) := by
  intro S F σ H RI Qp Ep w st hm hQ hE
  refine h S F σ H _ _ Ep w st hm (fun x S' H' vs hx hr hv => ?_) hE
  obtain ⟨_, _, rfl, ⟨a, xs, rfl, na, ha, la⟩, _, _, rfl, ⟨b, ys, rfl, nb, hb, lb⟩, rfl⟩ := hv
  refine ⟨a, b, xs, ys, rfl, .inl ⟨.inl (.inl ha), .inl (.inl hb), hQ _ _ _ S' H' hx hr ?_⟩⟩
  refine iter_pair _ (walk_zip (xs := xs) (ys := ys) ?_) (fun F' S2 H2 hf st w2 => ⟨⟨.inl (rd_stp st na (.inl ha)), .inl (rd_stp st nb (.inl hb))⟩, fun i v z e ez => ?_, fun i v z e ez => ?_⟩)
  · rw [List.length_zip, la.length, lb.length, List.length_map, List.length_map]
  · exact atL_at (la.up st) e (zip_get ez).1
  · exact atL_at (lb.up st) e (zip_get ez).2
def enumI {α : Type} (xs : List α) : List (Int × α) := xs.zipIdx.map fun y => ((y.2 : Nat), y.1)
theorem enumI_len (xs : List α) : (enumI xs).length = xs.length := by simp [enumI]
theorem enumI_get {xs : List α} {i : Nat} {z : Int × α} (h : (enumI xs)[i]? = some z) : z.1 = (i : Nat) ∧ xs[i]? = some z.2 := by
  unfold enumI at h
  rw [List.getElem?_map, List.getElem?_zipIdx] at h
  cases e : xs[i]? with
  | none => rw [e] at h; simp at h
  | some x => rw [e] at h; simp at h; rw [← h]; simp
theorem simI_enumL {ta : TA} {r : α → Dm K} {m : W K (List α × Unit)} (h : SimA ε G ta (fun x : List α × Unit => [kL r x.1]) m) :
    SimI ε G (iEnumA K ta) (kP kI r) (bnd m fun x => ret (enumI x.1, nI)) := by
  intro S F σ H RI Qp Ep w st hm hQ hE
  refine h S F σ H _ _ Ep w st hm (fun x S' H' vs hx hr hv => ?_) hE
  obtain ⟨_, _, rfl, ⟨a, xs, rfl, na, ha, la⟩, rfl⟩ := hv
  refine ⟨a, xs, rfl, .inl ⟨.inl (.inl ha), hQ _ _ _ S' H' hx hr ?_⟩⟩
  have hl : xs.length = (enumI x.1).length := by rw [la.length, List.length_map, enumI_len]
  refine iter_pair _ (hl ▸ walk_enum (K := K) (a := a) (xs := xs)) (fun F' S2 H2 hf st w2 => ⟨.inl (rd_stp st na (.inl ha)), fun i v z e ez => ?_, fun i v z e ez => ?_⟩)
  · cases e
    rw [(enumI_get ez).1]
    exact mk_int
  · exact atL_at (la.up st) e (enumI_get ez).2
/-! ### targets -/
def setAll : L2.St → List Nat → List V → L2.St
  | σ, i :: is, v :: vs => setAll (σ.set i (some v)) is vs
  | σ, _, _ => σ
def gsets : Gm K → List (Nat × Dm K) → Gm K
  | G, [] => G
  | G, x :: r => gsets (G.set x.1 (some x.2)) r
theorem Sat.sets {Z : Pl} : ∀ {l : List (Nat × Dm K)} {G : Gm K} {σ : L2.St} {vs : List V}, Sat G Z H σ → AtL Z H (l.map (·.2)) vs → Sat (gsets G l) Z H (setAll σ (l.map (·.1)) vs)
  | [], G, σ, vs, h, a => by cases a; exact h
  | x :: r, G, σ, _, h, ⟨v, t, e, a, b⟩ => by
    subst e
    exact Sat.sets (l := r) (h.set a) b
def SimG (g : TG) {α : Type} (r : α → Dm K) (sets : α → List (Nat × Dm K)) : Prop := ∀ Z H v x σ (N : L2.St → Hp → Prop), (r x).at_ Z H v →
  (∀ vs, AtL Z H ((sets x).map (·.2)) vs → N (setAll σ ((sets x).map (·.1)) vs) H) → g v σ H N
def SimGs (t : TGs) {α : Type} (δ : α → List (Dm K)) (sets : α → List (Nat × Dm K)) : Prop := ∀ Z H vs x σ (N : L2.St → Hp → Prop), AtL Z H (δ x) vs →
  (∀ vs, AtL Z H ((sets x).map (·.2)) vs → N (setAll σ ((sets x).map (·.1)) vs) H) → t vs σ H N
theorem simG_name {i : Nat} {r : α → Dm K} : SimG (gName i) r fun x => [(i, r x)] := fun Z H v x σ N h q => q [v] (AtL.one h)
theorem simGs_nil : SimGs (K := K) gNil (fun _ : Unit => []) fun _ => [] := fun Z H vs x σ N h q => ⟨h, q [] rfl⟩
theorem setAll_app : ∀ (is : List Nat) (vs : List V) (js : List Nat) (ws : List V) (σ : L2.St), is.length = vs.length → setAll σ (is ++ js) (vs ++ ws) = setAll (setAll σ is vs) js ws
  | [], [], _, _, _, _ => rfl
  | i :: is, v :: vs, js, ws, σ, h => setAll_app is vs js ws _ (by simpa using h)
  | [], _ :: _, _, _, _, h => by simp at h
  | _ :: _, [], _, _, _, h => by simp at h
theorem simGs_cons {g : TG} {t : TGs} {r : α → Dm K} {δ : τ → List (Dm K)} {s : α → List (Nat × Dm K)} {ss : τ → List (Nat × Dm K)} (a : SimG g r s) (b : SimGs t δ ss) :
    SimGs (gCons g t) (fun x : α × τ => r x.1 :: δ x.2) fun x => s x.1 ++ ss x.2 := by
  rintro Z H _ x σ N ⟨v, vs, rfl, h1, h2⟩ q
  refine ⟨v, vs, rfl, a Z H v x.1 σ _ h1 fun us hu => b Z H vs x.2 _ N h2 fun ws hw => ?_⟩
  have := q (us ++ ws) (by rw [List.map_append]; exact hu.append hw)
  rw [List.map_append, setAll_app _ _ _ _ _ (by rw [hu.length, List.length_map, List.length_map])] at this
  exact this
theorem simG_tup {n : Nat} {t : TGs} {r : α → Dm K} {δ : τ → List (Dm K)} {ss : τ → List (Nat × Dm K)} (f : α → τ) (b : SimGs t δ ss) (e : ∀ x, r x = dP (δ (f x))) (hn : ∀ x, (δ (f x)).length = n) :
    SimG (gTup K n t) r fun x => ss (f x) := by
  intro Z H v x σ N h q
  rw [e] at h
  obtain ⟨a, xs, rfl, _, hs, l⟩ := h
  exact ⟨a, xs, rfl, .inl (.inl hs), by rw [l.length, hn], b Z H xs (f x) σ N l q⟩
theorem simG_pair {g1 g2 : TG} {r : α → Dm K} {s : β → Dm K} {s1 : α → List (Nat × Dm K)} {s2 : β → List (Nat × Dm K)} (a : SimG g1 r s1) (b : SimG g2 s s2) :
    SimG (gTup K 2 (gCons g1 (gCons g2 gNil))) (kP r s) (fun x => s1 x.1 ++ (s2 x.2 ++ [])) := simG_tup (fun x : α × β => (x.1, x.2, ())) (simGs_cons a (simGs_cons b simGs_nil)) (fun _ => rfl) (fun _ => rfl)
/-! ### comprehensions -/
def fmapW {K : PySem.W.Frag} {α β : Type} (I : Store K → Prop) (c : α → W K Bool) (f : α → W K β) : List α → W K (List β)
  | [] => fun Q E S => I S ∧ Q [] S
  | x :: xs => fun Q E S => I S ∧ bnd (c x) (fun b => wIf b (bnd (f x) fun y => bnd (fmapW I c f xs) fun ys => ret (y :: ys)) (fmapW I c f xs)) Q E S
theorem getElem?_set_none {σ : L2.St} {i : Nat} {j : Nat} : (σ.set i none)[j]? = if i = j ∧ i < σ.length then some none else σ[j]? := by
  rw [List.getElem?_set]
  by_cases h : i = j
  · subst h
    by_cases l : i < σ.length
    · simp [l]
    · simp [l]
  · simp [h]
theorem wipe_get (σ : L2.St) (j : Nat) : ∀ vs : List Nat, (L2.wipe σ vs)[j]? = if j ∈ vs ∧ j < σ.length then some none else σ[j]?
  | [] => by simp [L2.wipe]
  | v :: vs => by
    show ((L2.wipe σ vs).set v none)[j]? = _
    rw [getElem?_set_none, wipe_get σ j vs, wipe_length]
    by_cases a : v = j
    · subst a
      by_cases l : v < σ.length
      · simp [l]
      · simp [l]
    · by_cases l : j < σ.length
      · have a' : ¬ j = v := fun z => a z.symm
        simp [a, a']
      · simp [l, a]
theorem setAll_len : ∀ (is : List Nat) (ws : List V) (σ : L2.St), (setAll σ is ws).length = σ.length
  | [], _, _ => rfl
  | _ :: _, [], _ => rfl
  | i :: is, v :: ws, σ => by
    show (setAll (σ.set i (some v)) is ws).length = _
    rw [setAll_len, List.length_set]
theorem setAll_out {j : Nat} : ∀ (is : List Nat) (ws : List V) (σ : L2.St), j ∉ is → (setAll σ is ws)[j]? = σ[j]?
  | [], _, _, _ => rfl
  | _ :: _, [], _, _ => rfl
  | i :: is, v :: ws, σ, h => by
    show (setAll (σ.set i (some v)) is ws)[j]? = _
    have a : i ≠ j := fun z => h (z ▸ List.mem_cons_self)
    rw [setAll_out is ws _ fun z => h (List.mem_cons_of_mem _ z), List.getElem?_set, if_neg a]
theorem wipe_setAll {σ : L2.St} {vs is : List Nat} {ws : List V} (h : ∀ i ∈ is, i ∈ vs) : L2.wipe (setAll (L2.wipe σ vs) is ws) vs = L2.wipe σ vs := by
  apply List.ext_getElem?
  intro j
  rw [wipe_get, wipe_get, setAll_len, wipe_length]
  by_cases m : j ∈ vs
  · by_cases l : j < σ.length
    · simp [m, l]
    · simp only [m, l, and_false, if_false]
      rw [List.getElem?_eq_none (by rw [setAll_len, wipe_length]; omega), List.getElem?_eq_none (by omega)]
  · simp only [m, false_and, if_false]
    rw [setAll_out _ _ _ fun z => m (h j z), wipe_get]
    simp [m]
/-- a list that is new -/
def SimN (ε : WX) (G : Gm K) (te : TE) {α : Type} (r : α → Dm K) (m : W K (List α)) : Prop :=
  ∀ S F σ H (Q : VK) (Qp : List α → Store K → Prop) (Ep : Err K → Store K → Prop), Wd S F H → Sat G (Zd S F) H σ → m Qp Ep S →
    (∀ xs S' H' a vs, Qp xs S' → Nxt S F H S' H' → H a = none → Wd S' (fun b => F b ∨ b = a) H' → ¬ F a → H' a = some (.lst vs) → AtL (Zd S' fun b => F b ∨ b = a) H' (xs.map r) vs → Q (.ref a) H') → HanE ε S F H σ Ep → te σ H Q
theorem sim_new {te : TE} {r : α → Dm K} {m : W K (List α)} (h : SimN ε G te r m) : Sim ε G te (kL r) m := by
  intro S F σ H Q Qp Ep w s hm hQ hE
  refine h S F σ H Q Qp Ep w s hm (fun xs S' H' a vs hx hr ha hs hf e l => ?_) hE
  exact hQ xs S' H' _ hx hr ⟨a, vs, rfl, fun z => z.elim (fun z => z (hs.dis a (.inr rfl))) hf, e, l.up (Stp.less fun b z => z.imp id .inl)⟩
/-- a new list becomes a thing of the store -/
def wThaw {α : Type} (r : α → Dm K) (xs : List α) : W K Addr := wNew (.lst (xs.map r))
theorem sim_thaw {te : TE} {r : α → Dm K} {m : W K (List α)} (h : SimN ε G te r m) : Sim ε G te kRef (bnd m (wThaw r)) := by
  intro S F σ H Q Qp Ep w s hm hQ hE
  refine h S F σ H Q _ Ep w s hm (fun xs S' H' a vs hx hr ha hs hf e l => ?_) hE
  have hs' : S' a = none := hs.dis a (.inr rfl)
  have zz : Zd (S'.set a (.lst (xs.map r))) F = Zd S' fun b => F b ∨ b = a := by
    funext b
    unfold Zd
    by_cases q : b = a
    · subst q; rw [set_same]; simp
    · rw [set_ne q]; simp [q]
  have wd : Wd (S'.set a (.lst (xs.map r))) F H' := by
    refine ⟨hs.one, fun b c eb => ?_, fun b z => hs.foc b (.inl z), fun b z => ?_⟩
    · rw [zz]
      by_cases q : b = a
      · subst q
        rw [set_same] at eb
        cases eb
        exact ⟨vs, e, l⟩
      · rw [set_ne q] at eb
        exact hs.cell b c eb
    · have q : b ≠ a := fun q => hf (q ▸ z)
      rw [set_ne q]; exact hs.dis b (.inl z)
  refine hQ a _ H' _ (hx a hs') ⟨⟨hr.st.keep, fun b z => ?_, hr.st.occ⟩, wd⟩ rfl
  by_cases q : b = a
  · exact .inr (q ▸ ha)
  · rw [set_ne q] at z; exact hr.st.dom b z
theorem simN_lc {wi : TI} {g : TG} {tt : TT} {te : TE} {vs : List Nat} {r : α → Dm K} {r2 : β → Dm K} {sets : α → List (Nat × Dm K)} {m : W K (List α × (Store K → Prop))} {mc : α → W K Bool} {me : α → W K β}
    (i : SimI ε G wi r m) (t : SimG g r sets) (hs : ∀ x, ∀ y ∈ (sets x).map (·.1), y ∈ vs)
    (c : ∀ x, SimB (fun _ _ _ _ => False) (gsets (gwipe G vs) (sets x)) tt (mc x)) (e : ∀ x, Sim (fun _ _ _ _ => False) (gsets (gwipe G vs) (sets x)) te r2 (me x)) :
    SimN ε G (tLc wi g tt te vs) r2 (bnd m fun xs => wAss (xs.1.length ≤ 50000) (wCalm (fmapW xs.2 mc me xs.1))) := by
  intro S F σ H Q Qp Ep w s hm hQ hE
  refine i S F σ H _ _ Ep w s hm (fun xs I J S1 H1 hx h1 it => ?_) hE
  intro D hD
  have w1 := h1.wd
  obtain ⟨Gi, Y, wk, hz⟩ := it.ex
  let F' : Pl := fun b => F b ∨ b = D
  have fD : F' D := .inr rfl
  have wD0 : Wd S1 F' (upd H1 D (.lst [])) := w1.moreF hD (.inl ⟨[], upd_same⟩)
  have st0 : Stp (Zd S1 F) H1 (Zd S1 F') (upd H1 D (.lst [])) := Stp.moreF w1 hD
  obtain ⟨hl, hx⟩ := hx
  have hl : xs.length ≤ 50000 := hl
  have fx : Fx F H1 F' := .inr ⟨D, hD, rfl⟩
  have nF : ¬ F D := fun z => by
    obtain ⟨o, e, _⟩ := (w1.foc D z).some
    rw [hD] at e; cases e
  have sub : ∀ b, F b → F' b := fun b z => .inl z
  have stF : ∀ {S' : Store K} {H' : Hp}, Stq S1 H1 S' H' → Stp (Zd S1 F) H1 (Zd S' F') H' := fun q => ⟨q.stp.keep, fun b z => z.elim (fun z => (q.dom b z).imp .inl id) fun z => z.elim (fun z => .inl (.inr z)) fun z => .inr (z ▸ hD)⟩
  have over : ∀ {S' : Store K} {H' : Hp} {o : HO}, Stq S1 H1 S' H' → Stq S1 H1 S' (upd H' D o) := fun q => ⟨fun b u n e => by rw [upd_ne (ne_of_none e hD)]; exact q.keep b u n e, q.dom, fun b z => by
    by_cases e : b = D
    · rw [e, upd_same]; exact fun w => nomatch w
    · rw [upd_ne e]; exact q.occ b z⟩
  refine lc_it wk (Pv := fun i H' => ∃ S' ys acc, H' D = some (.lst acc) ∧ Stq S1 H1 S' H' ∧ Wd S' F' H' ∧ AtL (Zd S' F') H' (ys.map r2) acc ∧ ys.length ≤ i ∧ fmapW I mc me (xs.drop i) (fun zs S2 => Qp (ys ++ zs) S2) (fun _ _ => False) S') ?_ ?_ ?_ ?_
  · exact ⟨S1, [], [], upd_same, over .refl, wD0, rfl, Nat.le_refl _, by simpa [wCalm] using hx⟩
  · rintro i H' hi ⟨S', ys, acc, e1, q1, w', l, le, hf⟩
    refine (hz F' S' H' fx (stF q1) w' ?_).1
    cases q : xs.drop i with
    | nil => rw [q] at hf; exact hf.1
    | cons x t => rw [q] at hf; exact hf.1
  · rintro i x H' H3 hi ⟨S', ys, acc, e1, q1, w', l, le, hf⟩ y
    obtain ⟨x0, hx0⟩ : ∃ x0, xs[i]? = some x0 := ⟨_, List.getElem?_eq_getElem hi⟩
    have ed : xs.drop i = x0 :: xs.drop (i + 1) := by
      rw [List.drop_eq_getElem_cons hi]
      have := List.getElem?_eq_some_iff.mp hx0
      rw [this.2]
    rw [ed] at hf
    obtain ⟨nx3, hv⟩ := (hz F' S' H' fx (stF q1) w' hf.1).2 i x H3 x0 y hx0
    have q3 := q1.trans nx3.st
    refine t _ H3 x x0 (L2.wipe σ vs) _ hv fun ws hws => ⟨wipe_setAll (hs x0), ?_⟩
    have s3 : Sat (gsets (gwipe G vs) (sets x0)) (Zd S' F') H3 (setAll (L2.wipe σ vs) ((sets x0).map (·.1)) ws) := (((s.up h1.stp).up (stF q3)).wipe vs).sets hws
    have eD : ∀ {S4 : Store K} {H4 : Hp}, Nxt S' F' H' S4 H4 → H4 D = some (.lst acc) := fun n => n.st.keep D _ (w'.dis D fD) e1
    refine c x0 S' F' _ H3 _ _ _ nx3.wd s3 hf.2 (fun b S4 H4 hb h4 => ?_) hanE_no
    cases b with
    | true =>
      refine iteT (e x0 S4 F' _ H4 _ _ _ h4.wd (s3.up h4.stp) (by have q := hb; unfold wIf at q; rw [if_pos rfl] at q; exact q) (fun z S5 H5 v hz h5 hv => ?_) hanE_no)
      have h35 := nx3.trans (h4.trans h5)
      refine ⟨acc, eD h35, by rw [l.length, List.length_map]; exact sl_lt (by omega), S5, ys ++ [z], acc ++ [v], upd_same, over (q1.trans h35.st), h5.wd.putF fD (.inl ⟨_, upd_same⟩), ?_, by simp; omega, by simpa [bnd, ret] using hz⟩
      rw [List.map_append]
      have sp : Stp (Zd S5 F') H5 (Zd S5 F') (upd H5 D (.lst (acc ++ [v]))) := Stp.put (.inr fD)
      exact AtL.append ((l.up h35.stp).up sp) (AtL.one (Dm.up _ sp hv))
    | false =>
      have h34 := nx3.trans h4
      exact iteF ⟨S4, ys, acc, eD h34, q1.trans h34.st, h4.wd, l.up h34.stp, by omega, by have q := hb; unfold wIf at q; rw [if_neg (by decide)] at q; exact q⟩
  · rintro H' ⟨S', ys, acc, e1, q1, w', l, le, hf⟩
    rw [List.drop_eq_nil_of_le (Nat.le_refl _)] at hf
    have hq : Qp ys S' := by simpa using hf.2
    have nx : Nxt S1 F H1 S' H' := ⟨q1, w'.lessF sub⟩
    have hD0 : H D = none := by
      cases e : H D with
      | none => rfl
      | some o => exact absurd hD (h1.st.occ D (by rw [e]; exact fun z => nomatch z))
    exact hQ ys S' H' D acc hq (h1.trans nx) hD0 w' nF e1 l
theorem sim_lc {wi : TI} {g : TG} {tt : TT} {te : TE} {vs : List Nat} {r : α → Dm K} {r2 : β → Dm K} {sets : α → List (Nat × Dm K)} {m : W K (List α × (Store K → Prop))} {mc : α → W K Bool} {me : α → W K β}
    (i : SimI ε G wi r m) (t : SimG g r sets) (hs : ∀ x, ∀ y ∈ (sets x).map (·.1), y ∈ vs)
    (c : ∀ x, SimB (fun _ _ _ _ => False) (gsets (gwipe G vs) (sets x)) tt (mc x)) (e : ∀ x, Sim (fun _ _ _ _ => False) (gsets (gwipe G vs) (sets x)) te r2 (me x)) :
    Sim ε G (tLc wi g tt te vs) (kL r2) (bnd m fun xs => wAss (xs.1.length ≤ 50000) (wCalm (fmapW xs.2 mc me xs.1))) := sim_new (simN_lc i t hs c e)
end
end TL

set_option Elab.async false
set_option linter.all false
set_option maxRecDepth 100000
set_option maxHeartbeats 2000000
/-! PcV: statements, defs by their wishes. -/
namespace TL
open PySem PySem.Spec PyProof.Rows L2 PC

section
variable {K : PySem.W.Frag} {ε : WX} {Gh : Option (Gm K)} {G : Gm K} {α β γ τ S' ρ : Type} {T : Type}
/-- one after another -/
def runs : List TS → TS
  | [] => fun D σ H => D.nx σ H
  | t :: ts => fun D σ H => t { D with nx := runs ts D } σ H
/-- from the entry (S0, F, H0) on: the slots are as G says -/
structure Cf (S0 : Store K) (F : Pl) (H0 : Hp) (G : Gm K) (S : Store K) (H : Hp) (σ : L2.St) : Prop where
  nx : Nxt S0 F H0 S H
  sat : Sat G (Zd S F) H σ
def SatO : Option (Gm K) → Pl → Hp → L2.St → Prop
  | none, _, _, _ => True
  | some G, Z, H, σ => Sat G Z H σ
def HanS (ε : WX) (Gh : Option (Gm K)) (S0 : Store K) (F : Pl) (H0 : Hp) (Ep : Err K → Store K → Prop) : Prop :=
  ∀ e S' H' c d σ', Ep e S' → Nxt S0 F H0 S' H' → SatO Gh (Zd S' F) H' σ' → ErrAt e (Zd S' F) H' c d → ε c d σ' H'
def SimS (ε : WX) (Gh : Option (Gm K)) (G : Gm K) (ts : List TS) {T ρ : Type} (Gof : T → Gm K) (rr : ρ → Dm K) (m : W K (Flow T ρ)) : Prop :=
  ∀ S0 F H0 S H σ (D : Ends) (Qp : Flow T ρ → Store K → Prop) (Ep : Err K → Store K → Prop), Cf S0 F H0 G S H σ → m Qp Ep S →
    (∀ s S' H' σ', Qp (.nx s) S' → Cf S0 F H0 (Gof s) S' H' σ' → D.nx σ' H') →
    (∀ s S' H' σ', Qp (.bk s) S' → Cf S0 F H0 (Gof s) S' H' σ' → D.bk σ' H') →
    (∀ x S' H' v, Qp (.rt x) S' → Nxt S0 F H0 S' H' → (rr x).at_ (Zd S' F) H' v → D.rt v H') →
    HanS ε Gh S0 F H0 Ep → runs ts D σ H
/-- what the errors' taker asks of the slots holds here -/
def Le (G : Gm K) : Option (Gm K) → Prop
  | none => True
  | some G' => Wk G G'
theorem le_none : Le G none := trivial
theorem Le.sat {Z : Pl} {H : Hp} {σ : L2.St} (l : Le G Gh) (s : Sat G Z H σ) : SatO Gh Z H σ := by
  cases Gh with
  | none => trivial
  | some G' => exact s.wk l
variable {Gof : T → Gm K} {rr : ρ → Dm K} {ts : List TS}
section
variable {S0 S S1 : Store K} {F : Pl} {H0 H H1 : Hp} {σ : L2.St} {Ep : Err K → Store K → Prop}
theorem Cf.wd (c : Cf S0 F H0 G S H σ) : Wd S F H := c.nx.wd
theorem Cf.to (c : Cf S0 F H0 G S H σ) (r : Nxt S F H S1 H1) : Cf S0 F H0 G S1 H1 σ := ⟨c.nx.trans r, c.sat.up r.stp⟩
theorem HanS.e (h : HanS ε Gh S0 F H0 Ep) (c : Cf S0 F H0 G S H σ) (l : Le G Gh) : HanE ε S F H σ Ep :=
  fun e S' H' k d he r hk => h e S' H' k d σ he (c.nx.trans r) (l.sat (c.sat.up r.stp)) hk
end
theorem HanS.to {S0 S1 : Store K} {F : Pl} {H0 H1 : Hp} {Ep : Err K → Store K → Prop} (h : HanS ε Gh S0 F H0 Ep) (n : Nxt S0 F H0 S1 H1) : HanS ε Gh S1 F H1 Ep :=
  fun e S' H' c d σ' he r hs hk => h e S' H' c d σ' he (n.trans r) hs hk
theorem Cf.base {S0 S1 S : Store K} {F : Pl} {H0 H1 H : Hp} {σ : L2.St} (c : Cf S1 F H1 G S H σ) (n : Nxt S0 F H0 S1 H1) : Cf S0 F H0 G S H σ := ⟨n.trans c.nx, c.sat⟩
theorem simS_seq {a b : TS} {m : W K (Flow T ρ)} (h : SimS ε Gh G (a :: b :: ts) Gof rr m) : SimS ε Gh G (tSeq a b :: ts) Gof rr m := h
theorem simS_end {s : T} (k : Wk G (Gof s)) : SimS ε Gh G [] Gof rr (ret (.nx s)) :=
  fun S0 F H0 S H σ D Qp Ep c hm h1 _ _ _ => h1 s S H σ hm ⟨c.nx, c.sat.wk k⟩
theorem simS_next {m : W K (Flow T ρ)} (h : SimS ε Gh G ts Gof rr m) : SimS ε Gh G (tNext :: ts) Gof rr m := h
theorem simS_asg {te : TE} {g : TG} {r : α → Dm K} {sets : α → List (Nat × Dm K)} {m : W K α} {k : α → W K (Flow T ρ)} (t : SimG g r sets) (l : Le G Gh) (e : Sim ε G te r m) (h : ∀ x, SimS ε Gh (gsets G (sets x)) ts Gof rr (k x)) :
    SimS ε Gh G (tAsg te g :: ts) Gof rr (bnd m k) := by
  intro S0 F H0 S H σ D Qp Ep c hm h1 h2 h3 h4
  refine e S F σ H _ _ Ep c.wd c.sat hm (fun x S1 H1 v hx r1 hv => ?_) (h4.e c l)
  refine t _ H1 v x σ _ hv fun vs hvs => h x S0 F H0 S1 H1 _ D _ Ep ⟨c.nx.trans r1, (c.sat.up r1.stp).sets hvs⟩ hx h1 h2 h3 h4
theorem simS_ret {te : TE} {m : W K ρ} (l : Le G Gh) (e : Sim ε G te rr m) : SimS ε Gh G (tRet te :: ts) Gof rr (bnd m fun x => ret (.rt x)) := by
  intro S0 F H0 S H σ D Qp Ep c hm h1 h2 h3 h4
  exact e S F σ H _ _ Ep c.wd c.sat hm (fun x S1 H1 v hx r1 hv => h3 x S1 H1 v hx (c.nx.trans r1) hv) (h4.e c l)
theorem simS_drop {te : TE} {r : α → Dm K} {m : W K α} {k : W K (Flow T ρ)} (l : Le G Gh) (e : Sim ε G te r m) (h : SimS ε Gh G ts Gof rr k) : SimS ε Gh G (tDrop te :: ts) Gof rr (bnd m fun _ => k) := by
  intro S0 F H0 S H σ D Qp Ep c hm h1 h2 h3 h4
  refine e S F σ H _ _ Ep c.wd c.sat hm (fun x S1 H1 v hx r1 hv => ?_) (h4.e c l)
  exact h S0 F H0 S1 H1 σ D _ Ep (c.to r1) hx h1 h2 h3 h4
theorem simS_if {c : TT} {a b : TS} {mc : W K Bool} {m n : W K (Flow T ρ)} (l : Le G Gh) (hc : SimB ε G c mc) (ha : SimS ε Gh G (a :: ts) Gof rr m) (hb : SimS ε Gh G (b :: ts) Gof rr n) :
    SimS ε Gh G (tIfS c a b :: ts) Gof rr (bnd mc fun x => wIf x m n) := by
  intro S0 F H0 S H σ D Qp Ep cf hm h1 h2 h3 h4
  refine hc S F σ H _ _ Ep cf.wd cf.sat hm (fun x S1 H1 hx r1 => ?_) (h4.e cf l)
  cases x with
  | true => exact iteT (ha S0 F H0 S1 H1 σ D _ Ep (cf.to r1) (by have q := hx; unfold wIf at q; rw [if_pos rfl] at q; exact q) h1 h2 h3 h4)
  | false => exact iteF (hb S0 F H0 S1 H1 σ D _ Ep (cf.to r1) (by have q := hx; unfold wIf at q; rw [if_neg (by decide)] at q; exact q) h1 h2 h3 h4)
/-- a, b = x, y -/
theorem simS_par {i j : Nat} {ta : TA} {r : α → Dm K} {s : β → Dm K} {m : W K (α × β × Unit)} {k : α × β × Unit → W K (Flow T ρ)} (l : Le G Gh) (e : SimA ε G ta (fun x : α × β × Unit => [r x.1, s x.2.1]) m)
    (h : ∀ x, SimS ε Gh ((G.set i (some (r x.1))).set j (some (s x.2.1))) ts Gof rr (k x)) : SimS ε Gh G (tPar i j ta :: ts) Gof rr (bnd m k) := by
  intro S0 F H0 S H σ D Qp Ep c hm h1 h2 h3 h4
  refine e S F σ H _ _ Ep c.wd c.sat hm (fun x S1 H1 vs hx r1 hv => ?_) (h4.e c l)
  obtain ⟨v, _, rfl, q1, u, _, rfl, q2, rfl⟩ := hv
  refine ⟨v, u, rfl, ?_⟩
  exact h x S0 F H0 S1 H1 _ D _ Ep ⟨c.nx.trans r1, ((c.sat.up r1.stp).set q1).set q2⟩ hx h1 h2 h3 h4
/-- raise C(..) -/
theorem simS_raise {C : Addr} {f : Str} {fs : List Str} {ta : TA} {δ : τ → List (Dm K)} {m : W K τ} (l : Le G Gh) (e : SimA ε G ta δ m) (er : τ → List (Str × Dm K))
    (he : ∀ y Z H vs, AtL Z H (δ y) vs → ∃ v ws, vs = v :: ws ∧ ws.length = fs.length ∧ AtK Z H (er y) ((fs.zip ws).reverse ++ [(f, v)])) :
    SimS ε Gh G ((fun _ σ H => tErr C f fs ta σ H fun cls d H' => ε cls d σ H') :: ts) Gof rr (bnd m fun y => wRaise (C, er y)) := by
  intro S0 F H0 S H σ D Qp Ep c hm h1 h2 h3 h4
  refine e S F σ H _ _ Ep c.wd c.sat hm (fun y S1 H1 vs hy r1 hv => ?_) (h4.e c l)
  obtain ⟨v, ws, rfl, hl, hf⟩ := he y _ H1 vs hv
  refine ⟨v, ws, rfl, hl, fun d hd => ?_⟩
  have nx : Nxt S1 F H1 S1 (upd H1 d (.xd ((fs.zip ws).reverse ++ [(f, v)]))) := r1.wd.new hd
  exact h4 _ S1 _ _ _ σ hy (c.nx.trans (r1.trans nx)) (l.sat (c.sat.up (r1.trans nx).stp)) ⟨rfl, d, _, rfl, r1.wd.free hd, upd_same, hf.up nx.stp⟩
theorem one_run {t : TS} {D : Ends} {σ : L2.St} {H : Hp} (h : runs [t] D σ H) : t D σ H := h
/-- x.f = value, x of the store -/
def wSetF {K : PySem.W.Frag} {β : Type} (C : Addr) (f : Str) (a : Addr) (d : Dm K) (k : W K β) : W K β := fun Q E S => ∃ fs, S a = some (.ins C fs) ∧ fs.length < 1000 ∧ k Q E (S.set a (.ins C (setF f d fs)))
theorem simS_fld {te to : TE} {C : Addr} {f : Str} {r : α → Dm K} {m : W K α} {mo : W K Addr} {k : W K (Flow T ρ)} (c : Cls K C) (n : NoAttr K C f) (l : Le G Gh) (e : Sim ε G te r m) (o : Sim ε G to kRef mo) (h : SimS ε Gh G ts Gof rr k) :
    SimS ε Gh G (sFld K to te f :: ts) Gof rr (bnd m fun x => bnd mo fun a => wSetF C f a (r x) k) := by
  intro S0 F H0 S H σ D Qp Ep cf hm h1 h2 h3 h4
  refine e S F σ H _ _ Ep cf.wd cf.sat hm (fun x S1 H1 v hx r1 hv => ?_) (h4.e cf l)
  have c1 := cf.to r1
  refine o S1 F σ H1 _ _ Ep c1.wd c1.sat hx (fun a S2 H2 u hy r2 hu => ?_) (h4.e c1 l)
  have c2 := c1.to r2
  obtain ⟨fs, ea, hl, hk⟩ := hy
  cases (show u = .ref a from hu)
  obtain ⟨dx, vs, e2, q⟩ := c2.wd.cell a _ ea
  refine ⟨a, C, dx, vs, rfl, e2, c, n, by rw [q.length]; exact hl, ?_⟩
  have st : Stp (Zd S2 F) H2 (Zd S2 F) (upd H2 a (.ins C dx (putF f v vs))) := Stp.put (.inl (by rw [ea]; exact fun z => nomatch z))
  have nx : Nxt S2 F H2 (S2.set a (.ins C (setF f (r x) fs))) (upd H2 a (.ins C dx (putF f v vs))) :=
    c2.wd.putS ea ⟨dx, _, upd_same, (q.up st).setF (Dm.up _ st (r2.up hv))⟩
  exact h S0 F H0 _ _ σ D _ Ep (c2.to nx) hk h1 h2 h3 h4
/-! ### loops -/
def forW {K : PySem.W.Frag} {α T ρ : Type} (I : Store K → Prop) (f : α → T → W K (Flow T ρ)) : List α → T → W K (Flow T ρ)
  | [], s => fun Q E S => I S ∧ Q (.nx s) S
  | x :: xs, s => fun Q E S => I S ∧ f x s (fun q S' => match q with
    | .nx s' => forW I f xs s' Q E S'
    | .bk s' => Q (.nx s') S'
    | .rt y => Q (.rt y) S') E S
/-- behind a loop -/
def aft {K : PySem.W.Frag} {T T' ρ : Type} (k : T' → W K (Flow T ρ)) : Flow T' ρ → W K (Flow T ρ)
  | .nx s => k s
  | .bk s => k s
  | .rt x => ret (.rt x)
theorem simS_for {T' : Type} {wi : TI} {g : TG} {tb : TS} {r : α → Dm K} {sets : α → List (Nat × Dm K)} {m : W K (List α × (Store K → Prop))} {Gl : T' → Gm K} {s0 : T'} {mb : α → T' → W K (Flow T' ρ)} {k : T' → W K (Flow T ρ)}
    (l : Le G Gh) (i : SimI ε G wi r m) (t : SimG g r sets) (w0 : Wk G (Gl s0))
    (b : ∀ x s, SimS ε Gh (gsets (Gl s) (sets x)) [tb] Gl rr (mb x s)) (h : ∀ s, SimS ε Gh (Gl s) ts Gof rr (k s)) :
    SimS ε Gh G (tFor wi g tb :: ts) Gof rr (bnd m fun xs => bnd (forW xs.2 mb xs.1 s0) (aft k)) := by
  intro S0 F H0 S H σ D Qp Ep c hm h1 h2 h3 h4
  refine i S F σ H _ _ Ep c.wd c.sat hm (fun xs I J S1 H1 hx r1 it => ?_) (h4.e c l)
  obtain ⟨Gi, Y, wk, hz⟩ := it.ex
  have n01 := c.nx.trans r1
  have cont : ∀ s σ' S' H', k s Qp Ep S' → Cf S1 F H1 (Gl s) S' H' σ' → runs ts D σ' H' := fun s σ' S' H' hk c' => h s S0 F H0 S' H' σ' D _ Ep (c'.base n01) hk h1 h2 h3 h4
  refine for_it wk (Pv := fun i σ' H' => ∃ s S', Cf S1 F H1 (Gl s) S' H' σ' ∧ forW I mb (xs.drop i) s (fun q => aft k q Qp Ep) Ep S') ?_ ?_ ?_ ?_
  · exact ⟨s0, S1, ⟨.refl r1.wd, (c.sat.up r1.stp).wk w0⟩, hx⟩
  · rintro i σ' H' hi ⟨s, S', c', hf⟩
    refine (hz F S' H' (.inl rfl) c'.nx.stp c'.wd ?_).1
    cases q : xs.drop i with
    | nil => rw [q] at hf; exact hf.1
    | cons x t => rw [q] at hf; exact hf.1
  · rintro i x σ' H' H3 hi ⟨s, S', c', hf⟩ y
    obtain ⟨x0, hx0⟩ : ∃ x0, xs[i]? = some x0 := ⟨_, List.getElem?_eq_getElem hi⟩
    have ed : xs.drop i = x0 :: xs.drop (i + 1) := by
      rw [List.drop_eq_getElem_cons hi]
      have := List.getElem?_eq_some_iff.mp hx0
      rw [this.2]
    rw [ed] at hf
    obtain ⟨r3, hv⟩ := (hz F S' H' (.inl rfl) c'.nx.stp c'.wd hf.1).2 i x H3 x0 y hx0
    refine t _ H3 x x0 σ' _ hv fun ws hws => ?_
    refine one_run (b x0 s S1 F H1 S' H3 _ _ _ Ep ⟨c'.nx.trans r3, (c'.sat.up r3.stp).sets hws⟩ hf.2 ?_ ?_ ?_ (h4.to n01))
    · intro s2 S4 H4 σ4 q c4
      exact ⟨s2, S4, c4, q⟩
    · intro s2 S4 H4 σ4 q c4
      exact cont s2 σ4 S4 H4 q c4
    · intro x2 S4 H4 u q r4 hu
      exact h3 x2 S4 H4 u q (n01.trans r4) hu
  · rintro σ' H' ⟨s, S', c', hf⟩
    rw [List.drop_eq_nil_of_le (Nat.le_refl _)] at hf
    exact cont s σ' S' H' hf.2 c'
def whileW {K : PySem.W.Frag} {T ρ : Type} (c : T → W K Bool) (f : T → W K (Flow T ρ)) (s0 : T) : W K (Flow T ρ) := fun Q E S0 => ∃ I : Nat → T → Store K → Prop, (∃ n, I n s0 S0) ∧ ∀ n s S, I n s S →
  c s (fun b => wIf b (fun Q' E => f s (fun q S' => match q with
    | .nx s' => ∃ n', n' < n ∧ I n' s' S'
    | .bk s' => Q' (.nx s') S'
    | .rt y => Q' (.rt y) S') E) (ret (.nx s)) Q E) E S
theorem simS_while {T' : Type} {c : TT} {tb : TS} {Gl : T' → Gm K} {s0 : T'} {mc : T' → W K Bool} {mb : T' → W K (Flow T' ρ)} {k : T' → W K (Flow T ρ)} (l : ∀ s, Le (Gl s) Gh) (w0 : Wk G (Gl s0))
    (hc : ∀ s, SimB ε (Gl s) c (mc s)) (b : ∀ s, SimS ε Gh (Gl s) [tb] Gl rr (mb s)) (h : ∀ s, SimS ε Gh (Gl s) ts Gof rr (k s)) :
    SimS ε Gh G (tWhile c tb :: ts) Gof rr (bnd (whileW mc mb s0) (aft k)) := by
  intro S0 F H0 S H σ D Qp Ep cf hm h1 h2 h3 h4
  obtain ⟨I, ⟨n0, i0⟩, step⟩ := hm
  refine ⟨fun n σ' H' => ∃ s S', Cf S0 F H0 (Gl s) S' H' σ' ∧ I n s S', ⟨n0, s0, S, ⟨cf.nx, cf.sat.wk w0⟩, i0⟩, ?_⟩
  rintro n σ' H' ⟨s, S', c', hi⟩
  refine hc s S' F σ' H' _ _ Ep c'.wd c'.sat (step n s S' hi) (fun x S2 H2 hx r2 => ?_) (h4.e c' (l s))
  have c2 := c'.to r2
  cases x with
  | true =>
    refine iteT ⟨fun σ3 H3 => ∃ n', n' < n ∧ ∃ s S', Cf S0 F H0 (Gl s) S' H3 σ3 ∧ I n' s S', fun σ3 H3 q => q, ?_⟩
    refine one_run (b s S0 F H0 S2 H2 σ' _ _ Ep c2 (by have q := hx; unfold wIf at q; rw [if_pos rfl] at q; exact q) ?_ ?_ ?_ h4)
    · rintro s2 S4 H4 σ4 ⟨n', hn, q⟩ c4
      exact ⟨n', hn, s2, S4, c4, q⟩
    · intro s2 S4 H4 σ4 q c4
      exact h s2 S0 F H0 S4 H4 σ4 D _ Ep c4 q h1 h2 h3 h4
    · intro x2 S4 H4 u q r4 hu
      exact h3 x2 S4 H4 u q r4 hu
  | false =>
    exact iteF (h s S0 F H0 S2 H2 σ' D _ Ep c2 (by have q := hx; unfold wIf at q; rw [if_neg (by decide)] at q; exact q) h1 h2 h3 h4)
/-! ### try -/
def wTry {K : PySem.W.Frag} {α : Type} (m : W K α) (h : Err K → W K α) : W K α := fun Q E S => m Q (fun e S' => h e Q E S') S
/-- the clause of C -/
def wCatch {K : PySem.W.Frag} {α : Type} (C : Addr) (h n : Err K → W K α) : Err K → W K α := fun e Q E S => ∃ b, PySem.W.exmOne K (.ref e.1) (.ref C) = some b ∧ (b = true → h e Q E S) ∧ (b = false → n e Q E S)
/-- a caught error -/
def kErr (a : Addr) (k : Value) (d : Option Addr) (e : Err K) : Dm K := ⟨fun Z H v => v = .ref a ∧ ErrAt e Z H k d, fun r h => ⟨h.1, h.2.up r⟩⟩
/-- clauses follow a wish -/
inductive SimC (ε : WX) (Gh : Option (Gm K)) (Gc : Gm K) {T ρ : Type} (Gof : T → Gm K) (rr : ρ → Dm K) : List Clause → (Err K → W K (Flow T ρ)) → Prop
  | nil (l : Le Gc Gh) : SimC ε Gh Gc Gof rr [] wRaise
  | cons {C : Addr} {i : Nat} {t : Addr → Value → Option Addr → TS} {r : List Clause} {h n : Err K → W K (Flow T ρ)} {Gs : T → Gm K}
      (b : ∀ a k d e, SimS ε Gh (Gc.set i (some (kErr a k d e))) [t a k d] Gs rr (h e)) (w : ∀ s, Wk ((Gs s).set i none) (Gof s)) (rest : SimC ε Gh Gc Gof rr r n) :
      SimC ε Gh Gc Gof rr ((.ref C, i, t) :: r) (wCatch C h n)
theorem SimC.run {Gc : Gm K} {l : List Clause} {hd : Err K → W K (Flow T ρ)} (s : SimC ε Gh Gc Gof rr l hd) : ∀ {S0 : Store K} {F : Pl} {H0 : Hp} {S : Store K} {H : Hp} {σ : L2.St} {D : Ends} {Qp : Flow T ρ → Store K → Prop} {Ep : Err K → Store K → Prop} {e : Err K} {c : Value} {d : Option Addr},
    Cf S0 F H0 Gc S H σ → ErrAt e (Zd S F) H c d → hd e Qp Ep S →
    (∀ s S' H' σ', Qp (.nx s) S' → Cf S0 F H0 (Gof s) S' H' σ' → D.nx σ' H') →
    (∀ s S' H' σ', Qp (.bk s) S' → Cf S0 F H0 (Gof s) S' H' σ' → D.bk σ' H') →
    (∀ x S' H' v, Qp (.rt x) S' → Nxt S0 F H0 S' H' → (rr x).at_ (Zd S' F) H' v → D.rt v H') →
    HanS ε Gh S0 F H0 Ep → wCl K ε D l c d σ H := by
  induction s with
  | nil l =>
    intro S0 F H0 S H σ D Qp Ep e c d cf hk hm h1 h2 h3 h4
    exact h4 e S H c d σ hm cf.nx (l.sat cf.sat) hk
  | @cons C i t r h n Gs b w rest ih =>
    intro S0 F H0 S H σ D Qp Ep e c d cf hk hm h1 h2 h3 h4
    obtain ⟨bb, e1, hy, hn⟩ := hm
    obtain rfl : c = .ref e.1 := hk.1
    refine ⟨bb, e1, fun eb a ha => ?_, fun eb => ih cf hk (hn eb) h1 h2 h3 h4⟩
    refine one_run (b a (.ref e.1) d e S0 F H0 S H _ _ _ Ep ⟨cf.nx, cf.sat.set ⟨rfl, hk⟩⟩ (hy eb) ?_ ?_ ?_ h4)
    · intro s S' H' σ' q c'
      exact h1 s S' H' _ q ⟨c'.nx, (Sat.wipe1 (i := i) c'.sat).wk (w s)⟩
    · intro s S' H' σ' q c'
      exact h2 s S' H' _ q ⟨c'.nx, (Sat.wipe1 (i := i) c'.sat).wk (w s)⟩
    · intro x S' H' v q n' hv
      exact h3 x S' H' v q n' hv
/-- behind a try (no break within) -/
def aftT {K : PySem.W.Frag} {T T' ρ : Type} (k : T' → W K (Flow T ρ)) : Flow T' ρ → W K (Flow T ρ)
  | .nx s => k s
  | .bk _ => fun _ _ _ => False
  | .rt x => ret (.rt x)
theorem simS_try {T' : Type} {tb : WX → TS} {l : List Clause} {Gc : Gm K} {G1 : T' → Gm K} {mb : W K (Flow T' ρ)} {hd : Err K → W K (Flow T' ρ)} {k : T' → W K (Flow T ρ)}
    (b : ∀ ε', SimS ε' (some Gc) G [tb ε'] G1 rr mb) (c : SimC ε Gh Gc G1 rr l hd) (h : ∀ s, SimS ε Gh (G1 s) ts Gof rr (k s)) :
    SimS ε Gh G ((fun D σ H => tb (wCl K ε D l) D σ H) :: ts) Gof rr (bnd (wTry mb hd) (aftT k)) := by
  intro S0 F H0 S H σ D Qp Ep cf hm h1 h2 h3 h4
  have g1 : ∀ s S' H' σ', aftT k (.nx s) Qp Ep S' → Cf S0 F H0 (G1 s) S' H' σ' → runs ts D σ' H' := fun s S' H' σ' q c' => h s S0 F H0 S' H' σ' D _ Ep c' q h1 h2 h3 h4
  show runs [tb (wCl K ε { D with nx := runs ts D } l)] { D with nx := runs ts D } σ H
  refine b _ S0 F H0 S H σ { D with nx := runs ts D } _ _ cf hm g1 (fun s S' H' σ' q c' => q.elim) h3 ?_
  intro e S' H' c' d σ' he n' hs hk
  exact c.run ⟨n', hs⟩ hk he g1 (fun s S' H' σ' q c' => q.elim) h3 h4
/-! ### a def -/
/-- what a body gives -/
def outW {K : PySem.W.Frag} {α : Type} (m : W K (Flow Unit α)) (d : Option α) : W K α := fun Q E S => m (fun q S' => match q with
  | .rt y => Q y S'
  | .nx _ => match d with | some y => Q y S' | none => False
  | .bk _ => False) E S
def envOf (ds : List (Dm K)) (n : Nat) : Gm K := ds.map some ++ List.replicate (n - ds.length) none
theorem sat_start {N : List Str} {ds : List (Dm K)} {vs : List V} {Z : Pl} {H : Hp} (h : AtL Z H ds vs) : Sat (envOf ds N.length) Z H (L2.start N vs) := by
  have hl := h.length
  refine ⟨by simp [L2.start, envOf, hl], fun i d e => ?_⟩
  unfold envOf at e
  rw [List.getElem?_append] at e
  unfold L2.start
  rw [List.getElem?_append]
  simp only [List.length_map] at e ⊢
  by_cases c : i < ds.length
  · rw [if_pos c, List.getElem?_map] at e
    rw [if_pos (by omega), List.getElem?_map]
    cases q : ds[i]? with
    | none => rw [q] at e; cases e
    | some x =>
      rw [q] at e
      cases e
      obtain ⟨v, e1, e2⟩ := h.get q
      exact ⟨v, by rw [e1]; rfl, e2⟩
  · rw [if_neg c, List.getElem?_replicate] at e
    split at e <;> cases e
variable {P : Program} {w : World} {mg : Str → Option Value} {base : Heap}
theorem okL {x qual : Str} {st : Stmt} {f : Addr} {fd : FuncData} {N ps : List Str} {k : Nat} {δ : τ → List (Dm K)} {r : α → Dm K} {wf : τ → W K α}
    (F : Fun K x qual st f fd) (S : FnScope N ps (defScope st)) (hl : ∀ x, (δ x).length = ps.length) (d : Option α) (hd : ∀ y, d = some y → r y = dPy .none)
    (body : ∀ (cdv : Value) (A : Around) (outer : List Env) (s : Shared) (H : Hp) (E : XK), GOkA K A base → Room k (A.deeper (envOfC qual (defScope st) s.heap.objs.size f cdv)) →
      ∃ t, PSs (cxg P w K mg base N qual st f cdv A outer s H E) (defBody st) t ∧ ∃ m : τ → W K (Flow Unit α),
        (∀ x, SimS (fun c d _ H => E c d H) none (envOf (δ x) N.length) [t] (fun _ : Unit => List.replicate N.length none) r (m x)) ∧ ∀ x Q E S, wf x Q E S → outW (m x) d Q E S) :
    FnG P w K mg base (k + 1) f fd ps (lift K δ r wf) := by
  refine FnG.okX F S (fun vs H Q E h => ?_) (fun cdv A outer s H vs Q E hg hr h => ?_)
  · obtain ⟨S0, F0, x, Qp, Ep, wd, ha, _⟩ := h
    rw [ha.length, hl]
  · obtain ⟨t, ht, m, hs, hw⟩ := body cdv A outer s H E hg hr
    refine ⟨t, ht, ?_⟩
    obtain ⟨S0, F0, x, Qp, Ep, wd, ha, hf, hQ, hE⟩ := h
    have q := hw x Qp Ep S0 hf
    refine hs x S0 F0 H S0 H _ { nx := fun _ H' => Q .non H', rt := Q } _ Ep ⟨.refl wd, sat_start ha⟩ q (fun _ S' H' σ' z c' => ?_) (fun _ _ _ _ z _ => z.elim) (fun y S' H' v z r' hv => hQ y S' H' v z r' hv)
      (fun e S' H' c dd σ' he r' _ hk => hE e S' H' c dd he r' hk)
    cases d with
    | none => exact z.elim
    | some y => exact hQ y S' H' .non z c'.nx (by rw [hd y rfl]; exact mk_non)
end
end TL

set_option Elab.async false
set_option linter.all false
set_option maxRecDepth 100000
set_option maxHeartbeats 2000000
/-! PcO: operations and built-ins, typed. -/
namespace TL
open PySem PySem.Spec PyProof.Rows L2 PC

section
variable {K : PySem.W.Frag} {ε : WX} {G : Gm K} {α β γ τ : Type} {S : Store K} {F : Pl}
/-! ### numbers -/
theorem os_I0 {g : Int → Int → Int} : OpS K (rI0 fun i j => .int (g i j)) kI kI kI (fun x y => ret (g x y)) := by
  intro S F H x y v w Q Qp Ep wd hv hw hf hQ
  obtain rfl := at_int hv
  obtain rfl := at_int hw
  exact ⟨x, y, rfl, rfl, hQ _ S H _ hf (.refl wd) mk_int⟩
theorem os_I {C : Int → Int → Prop} {g : Int → Int → Int} : OpS K (rI C fun i j => .int (g i j)) kI kI kI (fun x y => wAss (C x y) (ret (g x y))) := by
  intro S F H x y v w Q Qp Ep wd hv hw hf hQ
  obtain rfl := at_int hv
  obtain rfl := at_int hw
  exact ⟨x, y, rfl, rfl, hf.1, hQ _ S H _ hf.2 (.refl wd) mk_int⟩
theorem os_B0 {g : Int → Int → Bool} : OpS K (rI0 fun i j => .bl (g i j)) kI kI kB (fun x y => ret (g x y)) := by
  intro S F H x y v w Q Qp Ep wd hv hw hf hQ
  obtain rfl := at_int hv
  obtain rfl := at_int hw
  exact ⟨x, y, rfl, rfl, hQ _ S H _ hf (.refl wd) mk_bl⟩
theorem os_add : OpS K (rAdd K) kI kI kI (fun x y => ret (x + y)) := by
  intro S F H x y v w Q Qp Ep wd hv hw hf hQ
  obtain rfl := at_int hv
  obtain rfl := at_int hw
  exact s_add_int (hQ _ S H _ hf (.refl wd) mk_int)
theorem os_addL {r : α → Dm K} : OpS K (rAdd K) (kL r) (kL r) (kL r) (fun x y => wAss (x.length + y.length ≤ 50000) (ret (x ++ y))) := by
  intro S F H x y v w Q Qp Ep wd ⟨a, xs, e1, na, ha, la⟩ ⟨b, ys, e2, nb, hb, lb⟩ hf hQ
  subst e1 e2
  refine .inr (.inr (.inl ⟨a, b, xs, ys, rfl, rfl, .inl ha, .inl hb, by rw [la.length, lb.length, List.length_map, List.length_map]; exact sl_of hf.1, ?_⟩))
  exact new_lst wd (la.append lb) fun H' v r' h => hQ _ S H' v hf.2 r' (by rw [← List.map_append] at h; exact h)
/-! ### items -/
def wIx {K : PySem.W.Frag} {α : Type} (xs : List α) (i : Int) : W K α := fun Q _ S => 0 ≤ i ∧ ∃ x, xs[i.toNat]? = some x ∧ Q x S
theorem at_map {r : α → Dm K} {Z : Pl} {H : Hp} {xs : List α} {vs : List V} {i : Nat} {x : α} (l : AtL Z H (xs.map r) vs) (e : xs[i]? = some x) : ∃ v, vs[i]? = some v ∧ (r x).at_ Z H v :=
  l.get (by rw [List.getElem?_map, e]; rfl)
theorem os_ixL {r : α → Dm K} : OpS K (rIx K) (kL r) kI r (fun xs i => wIx xs i) := by
  intro S F H xs i v w Q Qp Ep wd ⟨a, vs, e1, na, ha, la⟩ hw ⟨h0, x, ex, hf⟩ hQ
  obtain rfl := at_int hw
  subst e1
  obtain ⟨u, hu, hd⟩ := at_map la ex
  have e : ((i.toNat : Nat) : Int) = i := Int.toNat_of_nonneg h0
  exact .inl ⟨a, vs, i, u, rfl, rfl, .inl (.inl ha), by rw [← e]; exact atI_nat hu, hQ x S H u hf (.refl wd) hd⟩
/-! ### == and in -/
theorem os_eqI : OpS K (rEqA K) kI kI kB (fun x y => ret (decide (x = y))) := by
  intro S F H x y v w Q Qp Ep wd hv hw hf hQ
  obtain rfl := at_int hv
  obtain rfl := at_int hw
  exact s_eq_int (hQ _ S H _ hf (.refl wd) mk_bl)
theorem os_neI : OpS K (rNeA K) kI kI kB (fun x y => ret (!decide (x = y))) := by
  intro S F H x y v w Q Qp Ep wd hv hw hf hQ
  obtain rfl := at_int hv
  obtain rfl := at_int hw
  exact s_ne_int (hQ _ S H _ hf (.refl wd) mk_bl)
theorem os_neS : OpS K (rNeA K) kS kS kB (fun x y => ret (!decide (x = y))) := by
  intro S F H x y v w Q Qp Ep wd hv hw hf hQ
  obtain rfl := at_str hv
  obtain rfl := at_str hw
  exact s_ne_str (hQ _ S H _ hf (.refl wd) mk_bl)
theorem os_eqP : OpS K (rEqA K) kPy kPy kB (fun d e => wAss (SeqAt.shaped d = true ∧ SeqAt.shaped e = true) (ret (PyData.eqv d e))) := by
  intro S F H x y v w Q Qp Ep wd hv hw hf hQ
  exact .inr ⟨[], x, y, wd.one, DatP.dat _ _ hv, DatP.dat _ _ hw, hf.1.1, hf.1.2, hQ _ S H _ hf.2 (.refl wd) mk_bl⟩
/-- is None -/
def isNone : PyData → Bool
  | .none => true
  | _ => false
theorem atL_ints {Z : Pl} {H : Hp} {ns : List Int} {vs : List V} (l : AtL Z H (ns.map (kI (K := K))) vs) : vs = ns.map V.int := by
  exact (DatPL.dat _ _ (AtL.dat (K := K) (f := PyData.int) (r := kI) (fun x Z H v h => h) l)).ints
theorem atL_bls {Z : Pl} {H : Hp} {ns : List Bool} {vs : List V} (l : AtL Z H (ns.map (kB (K := K))) vs) : vs = ns.map V.bl := by
  exact (DatPL.dat _ _ (AtL.dat (K := K) (f := PyData.bool) (r := kB) (fun x Z H v h => h) l)).bls
theorem ints_at {Z : Pl} {H : Hp} : ∀ ns : List Int, AtL Z H (ns.map (kI (K := K))) (ns.map V.int)
  | [] => rfl
  | n :: ns => ⟨.int n, _, rfl, mk_int, ints_at ns⟩
/-! ### calls -/
theorem at1 {Z : Pl} {H : Hp} {d : Dm K} {vs : List V} (h : AtL Z H [d] vs) : ∃ v, vs = [v] ∧ d.at_ Z H v := by
  obtain ⟨v, r, rfl, h1, rfl⟩ := h
  exact ⟨v, rfl, h1⟩
theorem at2 {Z : Pl} {H : Hp} {d e : Dm K} {vs : List V} (h : AtL Z H [d, e] vs) : ∃ v w, vs = [v, w] ∧ d.at_ Z H v ∧ e.at_ Z H w := by
  obtain ⟨v, r, rfl, h1, w, r, rfl, h2, rfl⟩ := h
  exact ⟨v, w, rfl, h1, h2⟩
theorem cb_lenL {r : α → Dm K} : CalB K (PC.rLen K) (fun x : List α × Unit => [kL r x.1]) kI (fun x => ret (x.1.length : Int)) := by
  intro S F H x vs Q Qp Ep wd h hf hQ
  obtain ⟨v, rfl, ⟨a, xs, rfl, n, s, l⟩⟩ := at1 h
  exact .inl ⟨a, xs, rfl, .inl (.inl (.inl s)), by rw [l.length, List.length_map]; exact hQ _ S H _ hf (.refl wd) mk_int⟩
theorem cb_tupleL {r : α → Dm K} : CalB K (rTuple K) (fun x : List α × Unit => [kL r x.1]) (kT r) (fun x => ret x.1) := by
  intro S F H x vs Q Qp Ep wd h hf hQ
  obtain ⟨v, rfl, ⟨a, xs, rfl, n, s, l⟩⟩ := at1 h
  exact ⟨a, xs, rfl, .inl ⟨.inl (.inl s), new_tup wd l fun H' v r' h => hQ _ S H' v hf r' (dP_dT h)⟩⟩
theorem cb_sum : CalB K (rSum K) (fun x : List Int × Unit => [kL kI x.1]) kI (fun x => ret x.1.sum) := by
  intro S F H x vs Q Qp Ep wd h hf hQ
  obtain ⟨v, rfl, ⟨a, xs, rfl, n, s, l⟩⟩ := at1 h
  obtain rfl := atL_ints l
  exact ⟨a, x.1, rfl, .inl (.inl s), hQ _ S H _ hf (.refl wd) mk_int⟩
theorem cb_all : CalB K (rAll K) (fun x : List Bool × Unit => [kL kB x.1]) kB (fun x => ret (x.1.all id)) := by
  intro S F H x vs Q Qp Ep wd h hf hQ
  obtain ⟨v, rfl, ⟨a, xs, rfl, n, s, l⟩⟩ := at1 h
  obtain rfl := atL_bls l
  exact ⟨a, x.1, rfl, .inl (.inl s), hQ _ S H _ hf (.refl wd) mk_bl⟩
theorem cb_max2 : CalB K (fun xs H Q => ∃ i j, xs = [.int i, .int j] ∧ Q (.int (if j > i then j else i)) H) (fun x : Int × Int × Unit => [kI x.1, kI x.2.1]) kI (fun x => ret (max x.1 x.2.1)) := by
  intro S F H x vs Q Qp Ep wd h hf hQ
  obtain ⟨v, w, rfl, h1, h2⟩ := at2 h
  obtain rfl := at_int h1
  obtain rfl := at_int h2
  refine ⟨_, _, rfl, ?_⟩
  have e : (if x.2.1 > x.1 then x.2.1 else x.1) = max x.1 x.2.1 := by omega
  rw [e]
  exact hQ _ S H _ hf (.refl wd) mk_int
theorem cb_min2 : CalB K (fun xs H Q => ∃ i j, xs = [.int i, .int j] ∧ Q (.int (if j < i then j else i)) H) (fun x : Int × Int × Unit => [kI x.1, kI x.2.1]) kI (fun x => ret (min x.1 x.2.1)) := by
  intro S F H x vs Q Qp Ep wd h hf hQ
  obtain ⟨v, w, rfl, h1, h2⟩ := at2 h
  obtain rfl := at_int h1
  obtain rfl := at_int h2
  refine ⟨_, _, rfl, ?_⟩
  have e : (if x.2.1 < x.1 then x.2.1 else x.1) = min x.1 x.2.1 := by omega
  rw [e]
  exact hQ _ S H _ hf (.refl wd) mk_int
theorem cb_sortedL : CalB K (PC.rSorted K) (fun x : List Int × Unit => [kL kI x.1]) (kL kI) (fun x => ret (isort x.1)) := by
  intro S F H x vs Q Qp Ep wd h hf hQ
  obtain ⟨v, rfl, ⟨a, xs, rfl, n, s, l⟩⟩ := at1 h
  obtain rfl := atL_ints l
  refine ⟨a, x.1, rfl, .inl (.inl (.inl s)), fun ms b hp hs hb => ?_⟩
  obtain rfl := isort_is hp hs
  exact hQ _ S _ _ hf (wd.new hb) ⟨b, _, rfl, wd.free hb, upd_same, ints_at _⟩
theorem cb_sortedT : CalB K (PC.rSorted K) (fun x : List Int × Unit => [kT kI x.1]) (kL kI) (fun x => ret (isort x.1)) := by
  intro S F H x vs Q Qp Ep wd h hf hQ
  obtain ⟨v, rfl, ⟨a, xs, rfl, n, s, l⟩⟩ := at1 h
  obtain rfl := atL_ints l
  refine ⟨a, x.1, rfl, .inr s, fun ms b hp hs hb => ?_⟩
  obtain rfl := isort_is hp hs
  exact hQ _ S _ _ hf (wd.new hb) ⟨b, _, rfl, wd.free hb, upd_same, ints_at _⟩
theorem cb_repr : CalB K (rRepr K) (fun x : PyData × Unit => [kPy x.1]) kS (fun x => wAss (Tame x.1 40 50000) (ret x.1.shown)) := by
  intro S F H x vs Q Qp Ep wd h hf hQ
  obtain ⟨v, rfl, h1⟩ := at1 h
  exact ⟨[], v, x.1, rfl, wd.one, DatP.dat _ _ h1, hf.1, hQ _ S H _ hf.2 (.refl wd) mk_str⟩
/-! isinstance -/
def kTy : String → Dm K := fun T => ⟨fun _ _ v => v = .ty T, fun _ h => h⟩
theorem sim_ty {T : String} : Sim ε G (tC (.ty T)) kTy (ret T) := fun S F σ H Q Qp Ep w s hm hQ _ => hQ _ S H _ hm (.refl w) rfl
theorem sim_cls {C : Addr} : Sim ε G (tC (.ref C)) kRef (ret C) := fun S F σ H Q Qp Ep w s hm hQ _ => hQ _ S H _ hm (.refl w) rfl
def IsTy (T : String) : Prop := T = "int" ∨ T = "bool" ∨ T = "str" ∨ T = "list" ∨ T = "tuple" ∨ T = "dict"
theorem cb_isi : CalB K (rIsi K) (fun x : PyData × String × Unit => [kPy x.1, kTy x.2.1]) kB (fun x => wAss (IsTy x.2.1) (ret (isD x.1 x.2.1))) := by
  intro S F H x vs Q Qp Ep wd h hf hQ
  obtain ⟨v, w, rfl, h1, h2⟩ := at2 h
  obtain rfl : w = .ty x.2.1 := h2
  exact s_isi (DatP.dat _ _ h1) hf.1 (hQ _ S H _ hf.2 (.refl wd) mk_bl)
/-- of the program's own classes -/
theorem cb_isC {C : Addr} {fs : α → List (Str × Dm K)} {r : α → Dm K} (e : ∀ x, r x = dI C (fs x)) (c : Cls K C) (t : InstT K C) (q0 : ClsQ K) : CalB K (rIsi K) (fun x : α × Addr × Unit => [r x.1, kRef x.2.1]) kB (fun x => wAss (x.2.1 = C) (ret true)) := by
  intro S F H x vs Q Qp Ep wd h hf hQ
  obtain ⟨v, w, rfl, h1, h2⟩ := at2 h
  obtain rfl : w = .ref x.2.1 := h2
  rw [e] at h1
  obtain ⟨a, dx, xs, rfl, _, e2, _⟩ := h1
  rw [hf.1]
  exact s_isiC c t q0 e2 (hQ _ S H _ hf.2 (.refl wd) mk_bl)
/-! bit_length, list(range()), slices, join -/
theorem sim_bits {te : TE} {m : W K Int} (h : Sim ε G te kI m) : Sim ε G (tBits te) kI (bnd m fun i => ret (Builtin.Int.intBits i : Int)) := by
  intro S F σ H Q Qp Ep w s hm hQ hE
  exact h S F σ H _ _ Ep w s hm (fun x S' H' v hx hr hv => ⟨x, at_int hv, hQ _ S' H' _ hx hr mk_int⟩) hE
def SimO (ε : WX) (G : Gm K) (to : TO) (m : W K (Option Int)) : Prop :=
  ∀ S F σ H (Q : Option Int → Hp → Prop) (Qp : Option Int → Store K → Prop) (Ep : Err K → Store K → Prop), Wd S F H → Sat G (Zd S F) H σ → m Qp Ep S →
    (∀ x S' H', Qp x S' → Nxt S F H S' H' → Q x H') → HanE ε S F H σ Ep → to σ H Q
theorem simO_no : SimO ε G tNoPart (ret none) := fun S F σ H Q Qp Ep w s hm hQ hE => hQ none S H hm (.refl w)
theorem simO_some {te : TE} {m : W K Int} (h : Sim ε G te kI m) : SimO ε G (tPart te) (bnd m fun i => ret (some i)) := by
  intro S F σ H Q Qp Ep w s hm hQ hE
  exact h S F σ H _ _ Ep w s hm (fun x S' H' v hx hr hv => ⟨x, at_int hv, hQ _ S' H' hx hr⟩) hE
/-- a slice -/
def sli {α : Type} (xs : List α) (lo hi : Option Int) : List α := (xs.drop (HT.sIx xs.length 0 lo)).take (HT.sIx xs.length xs.length hi - HT.sIx xs.length 0 lo)
theorem atL_cut {Z : Pl} {H : Hp} {r : α → Dm K} {xs : List α} {vs : List V} {lo hi : Option Int} (l : AtL Z H (xs.map r) vs) : AtL Z H ((sli xs lo hi).map r) (cutV vs lo hi) := by
  unfold sli cutV
  rw [l.length, List.length_map, List.map_take, List.map_drop]
  exact (l.drop _).take _
def SlS (K : PySem.W.Frag) (r : V → Option Int → Option Int → Hp → VK → Prop) {α γ : Type} (r1 : α → Dm K) (r3 : γ → Dm K) (f : α → Option Int → Option Int → W K γ) : Prop :=
  ∀ S F H x lo hi v Q (Qp : γ → Store K → Prop) (Ep : Err K → Store K → Prop), Wd S F H → (r1 x).at_ (Zd S F) H v → f x lo hi Qp Ep S → (∀ z S' H' u, Qp z S' → Nxt S F H S' H' → (r3 z).at_ (Zd S' F) H' u → Q u H') → r v lo hi H Q
theorem sim_sl {r : V → Option Int → Option Int → Hp → VK → Prop} {te : TE} {tl th : TO} {r1 : α → Dm K} {r3 : γ → Dm K} {m : W K α} {ml mh : W K (Option Int)} {f : α → Option Int → Option Int → W K γ}
    (o : SlS K r r1 r3 f) (a : Sim ε G te r1 m) (l : SimO ε G tl ml) (h : SimO ε G th mh) : Sim ε G (tSl r te tl th) r3 (bnd m fun x => bnd ml fun lo => bnd mh fun hi => f x lo hi) := by
  intro S F σ H Q Qp Ep w s hm hQ hE
  refine a S F σ H _ _ Ep w s hm (fun x S1 H1 v hx h1 hv => ?_) hE
  refine l S1 F σ H1 _ _ Ep h1.wd (s.up h1.stp) hx (fun lo S2 H2 hy h2 => ?_) (hE.to h1)
  have h12 := h1.trans h2
  refine h S2 F σ H2 _ _ Ep h2.wd (s.up h12.stp) hy (fun hi S3 H3 hz h3 => ?_) (hE.to h12)
  have h13 := h12.trans h3
  exact o S3 F H3 x lo hi v Q _ Ep h3.wd ((h2.trans h3).up hv) hz (fun z S' H' u q r' hu => hQ z S' H' u q (h13.trans r') hu)
theorem ss_L {r : α → Dm K} : SlS K (PC.rSl K) (kL r) (kL r) (fun x lo hi => ret (sli x lo hi)) := by
  intro S F H x lo hi v Q Qp Ep wd ⟨a, xs, e, n, s, l⟩ hf hQ
  subst e
  exact .inl ⟨a, xs, rfl, .inl (.inl s), new_lst wd (atL_cut l) fun H' v r' h => hQ _ S H' v hf r' h⟩
section
variable {δ : Type} {r : α → Dm K} {s : β → Dm K} {t : γ → Dm K} {u : δ → Dm K} {ta : TE} {m : W K (α × β × γ × δ)}
end
/-- (a, b), (a, b, c), (a, b, c, d) -/
theorem sim_pair {tr : TA} {r : α → Dm K} {s : β → Dm K} {n : W K (α × β × Unit)} (h : SimA ε G tr (fun x : α × β × Unit => [r x.1, s x.2.1]) n) : Sim ε G (tTup tr) (kP r s) (bnd n fun y => ret (y.1, y.2.1)) :=
  sim_tup (f := fun y => (y.1, y.2.1)) h (fun _ => rfl) (fun _ => by simp)
/-! f-strings -/
/-! == by an own def, len, repr, str by own defs -/
/-! ### lists of the store -/
/-- xs.append(x) -/
def wApp {K : PySem.W.Frag} {α : Type} (a : Addr) (d : Dm K) (k : W K α) : W K α := fun Q E S => ∃ ds, S a = some (.lst ds) ∧ ds.length < 50000 ∧ k Q E (S.set a (.lst (ds ++ [d])))
/-- xs[i] = x -/
def wSetI {K : PySem.W.Frag} {α : Type} (a : Addr) (i : Int) (d : Dm K) (k : W K α) : W K α := fun Q E S => ∃ ds, S a = some (.lst ds) ∧ 0 ≤ i ∧ i < ds.length ∧ k Q E (S.set a (.lst (ds.set i.toNat d)))
theorem ixN_of {n : Nat} {i : Int} (h0 : 0 ≤ i) (h1 : i < n) : ixN n i = some i.toNat := by
  unfold ixN
  rw [if_pos h0, if_pos h1]
theorem simS_setI {T ρ : Type} {Gh : Option (Gm K)} {Gof : T → Gm K} {rr : ρ → Dm K} {ts : List TS} {te to ti : TE} {r : α → Dm K} {m : W K α} {mo : W K Addr} {mi : W K Int} {k : W K (Flow T ρ)} (l : Le G Gh) (e : Sim ε G te r m) (o : Sim ε G to kRef mo) (i : Sim ε G ti kI mi)
    (h : SimS ε Gh G ts Gof rr k) : SimS ε Gh G (tAsg te (gSub to ti rSetL) :: ts) Gof rr (bnd m fun x => bnd mo fun a => bnd mi fun j => wSetI a j (r x) k) := by
  intro S0 F H0 S H σ D Qp Ep cf hm h1 h2 h3 h4
  refine e S F σ H _ _ Ep cf.wd cf.sat hm (fun x S1 H1 v hx r1 hv => ?_) (h4.e cf l)
  have c1 := cf.to r1
  refine o S1 F σ H1 _ _ Ep c1.wd c1.sat hx (fun a S2 H2 u hy r2 hu => ?_) (h4.e c1 l)
  have c2 := c1.to r2
  refine i S2 F σ H2 _ _ Ep c2.wd c2.sat hy (fun j S3 H3 w hz r3 hw => ?_) (h4.e c2 l)
  have c3 := c2.to r3
  obtain ⟨ds, ea, h0, hl, hk⟩ := hz
  cases (show u = .ref a from hu)
  obtain rfl := at_int hw
  obtain ⟨vs, e1, q⟩ := c3.wd.cell _ _ ea
  refine ⟨a, vs, j, j.toNat, rfl, rfl, e1, ixN_of h0 (by rw [q.length]; exact hl), ?_⟩
  have sp : Stp (Zd S3 F) H3 (Zd S3 F) (upd H3 a (.lst (vs.set j.toNat v))) := Stp.put (.inl (by rw [ea]; exact fun z => nomatch z))
  have nx : Nxt S3 F H3 (S3.set a (.lst (ds.set j.toNat (r x)))) (upd H3 a (.lst (vs.set j.toNat v))) := c3.wd.putS ea ⟨_, upd_same, (q.up sp).set _ (Dm.up _ sp ((r2.trans r3).up hv))⟩
  exact h S0 F H0 _ _ σ D _ Ep (c3.to nx) hk h1 h2 h3 h4
/-! ### new lists, told as new -/
theorem Nxt.old {S1 : Store K} {H1 : Hp} (n : Nxt S F H S1 H1) {a : Addr} (h : H1 a = none) : H a = none := by
  cases e : H a with
  | none => rfl
  | some o => exact absurd h (n.st.occ a (by rw [e]; exact fun z => nomatch z))
theorem new_out {α : Type} {r : α → Dm K} {xs : List α} {vs : List V} {Q : VK} (w : Wd S F H) (h : AtL (Zd S F) H (xs.map r) vs)
    (q : ∀ H' a vs, Nxt S F H S H' → H a = none → Wd S (fun b => F b ∨ b = a) H' → ¬ F a → H' a = some (.lst vs) → AtL (Zd S fun b => F b ∨ b = a) H' (xs.map r) vs → Q (.ref a) H') : ∀ n, H n = none → Q (.ref n) (upd H n (.lst vs)) := fun n hn =>
  q _ n vs (w.new hn) hn (w.moreF hn (.inl ⟨_, upd_same⟩)) (fun z => w.free hn (.inr z)) upd_same (h.up (Stp.moreF w hn))
def CalN (K : PySem.W.Frag) (r : List V → Hp → VK → Prop) {τ α : Type} (δ : τ → List (Dm K)) (r3 : α → Dm K) (w : τ → W K (List α)) : Prop :=
  ∀ S F H x vs Q (Qp : List α → Store K → Prop) (Ep : Err K → Store K → Prop), Wd S F H → AtL (Zd S F) H (δ x) vs → w x Qp Ep S →
    (∀ xs S' H' a vs, Qp xs S' → Nxt S F H S' H' → H a = none → Wd S' (fun b => F b ∨ b = a) H' → ¬ F a → H' a = some (.lst vs) → AtL (Zd S' fun b => F b ∨ b = a) H' (xs.map r3) vs → Q (.ref a) H') → r vs H Q
theorem simN_callB {r : List V → Hp → VK → Prop} {ta : TA} {δ : τ → List (Dm K)} {r3 : α → Dm K} {w : τ → W K (List α)} {ma : W K τ}
    (c : CalN K r δ r3 w) (a : SimA ε G ta δ ma) : SimN ε G (tCB r ta) r3 (bnd ma w) := by
  intro S F σ H Q Qp Ep wd s hm hQ hE
  refine a S F σ H _ _ Ep wd s hm (fun x S1 H1 vs hx h1 hvs => ?_) hE
  exact c S1 F H1 x vs Q _ _ h1.wd hvs hx (fun xs S' H' a us hy h2 ha hs hf e l => hQ xs S' H' a us hy (h1.trans h2) (h1.old ha) hs hf e l)
theorem cn_listL {r : α → Dm K} : CalN K (rList K) (fun x : List α × Unit => [kL r x.1]) r (fun x => ret x.1) := by
  intro S F H x vs Q Qp Ep wd h hf hQ
  obtain ⟨v, rfl, ⟨a, xs, rfl, n, s, l⟩⟩ := at1 h
  exact ⟨a, xs, rfl, .inl (.inl (.inl s)), new_out wd l fun H' a vs n1 n2 n3 n4 n5 n6 => hQ _ S H' a vs hf n1 n2 n3 n4 n5 n6⟩
/-! ### dicts of the store -/
def wPutK {K : PySem.W.Frag} {β : Type} (a : Addr) (k : Key) (d : Dm K) (c : W K β) : W K β := fun Q E S => ∃ es, S a = some (.dic es) ∧ es.length < 50000 ∧ c Q E (S.set a (.dic (putD es k d)))
def wPutT {K : PySem.W.Frag} {β : Type} (a : Addr) (k : List Key) (d : Dm K) (c : W K β) : W K β := fun Q E S => ∃ es, S a = some (.dct es) ∧ es.length < 50000 ∧ c Q E (S.set a (.dct (putD es k d)))
section
variable {T ρ : Type} {Gh : Option (Gm K)} {Gof : T → Gm K} {rr : ρ → Dm K} {ts : List TS} {te to ti : TE} {r : α → Dm K} {rk : β → Dm K} {m : W K α} {mo : W K Addr} {mi : W K β} {k : W K (Flow T ρ)}
end
end
end TL

set_option Elab.async false
set_option linter.all false
set_option maxRecDepth 100000
set_option maxHeartbeats 2000000
/-! PcN: more operations, typed. -/
namespace TL
open PySem PySem.Spec PyProof.Rows L2 PC

section
variable {K : PySem.W.Frag} {ε : WX} {G : Gm K} {α β γ τ : Type} {S : Store K} {F : Pl}
theorem sim_neg {te : TE} {m : W K Int} (h : Sim ε G te kI m) : Sim ε G (tUn (rU fun i => .int (-i)) te) kI (bnd m fun i => ret (-i)) :=
  sim_un (r1 := kI) (r3 := kI) (f := fun i => ret (-i)) (fun S F H x v Q Qp Ep wd hv hf hQ => ⟨x, at_int hv, hQ _ S H _ hf (.refl wd) mk_int⟩) h
/-! the script -/
theorem cb_lenSc : CalB K (PC.rLen K) (fun x : List Int × Unit => [kSc x.1]) kI (fun x => ret (x.1.length : Int)) := by
  intro S F H x vs Q Qp Ep wd h hf hQ
  obtain ⟨v, rfl, ⟨a, rfl, n, s⟩⟩ := at1 h
  exact .inl ⟨a, _, rfl, .inl s, by rw [List.length_map]; exact hQ _ S H _ hf (.refl wd) mk_int⟩
/-! lists -/
/-! things that are no None -/
/-! in -/
/-! len, repr, str by own defs -/
/-! fields of a caught error -/
def wXf {K : PySem.W.Frag} {C : Addr} {α : Type} (f : Str) (r : α → Dm K) (e : Err K) : W K α := fun Q _ S => e.1 = C ∧ ∃ x, e.2.lookup f = some (r x) ∧ Q x S
theorem sim_xf {te : TE} {a C : Addr} {k : Value} {d : Option Addr} {f : Str} {r : α → Dm K} {m : W K (Err K)} (h : Sim ε G te (kErr a k d) m) : Sim ε G (tXf a k d C f te) r (bnd m (wXf (C := C) f r)) := by
  intro S F σ H Q Qp Ep w s hm hQ hE
  refine h S F σ H _ _ Ep w s hm (fun e S1 H1 v hx h1 hv => ?_) hE
  obtain ⟨ec, x, ex, hq⟩ := hx
  obtain ⟨rfl, e1, b, kvs, e2, e3, e4, l⟩ := hv
  subst e1
  rcases l.look (f := f) with ⟨z, _⟩ | ⟨dd, u, z1, z2, z3⟩
  · rw [ex] at z; cases z
  · rw [ex] at z1; cases z1
    exact ⟨rfl, by rw [ec], b, kvs, u, e2, e4, z2, hQ x S1 H1 u hq h1 z3⟩
/-! xs[i] op= y -/
section
variable {T ρ : Type} {Gh : Option (Gm K)} {Gof : T → Gm K} {rr : ρ → Dm K} {ts : List TS} {te to ti : TE} {m : W K Int} {mo : W K Addr} {mi : W K Int} {k : W K (Flow T ρ)} {f : Int → Int → Int}
end
end
end TL
namespace TL
open PySem PySem.Spec PyProof.Rows L2 PC
/-! ### the top; promises of many kinds -/
theorem FnG.ex {P : Program} {w : World} {K : PySem.W.Frag} {mg : Str → Option Value} {base : Heap} {k : Nat} {f : Addr} {fd : FuncData} {ps : List Str} {ι : Type 1} {sp : ι → Sp}
    (F : ∀ i, FnG P w K mg base k f fd ps (sp i)) : FnG P w K mg base k f fd ps (fun vs H Q E => ∃ i, sp i vs H Q E) :=
  ⟨fun vs H Q E ⟨i, h⟩ => (F i).len vs H Q E h, fun A o s H a us vs Q E g r e0 b rv ⟨i, h⟩ => (F i).run A o s H a us vs Q E g r e0 b rv h⟩
section
variable {K : PySem.W.Frag} {ε : WX} {α τ : Type}
end
end TL
namespace TL
open PySem PySem.Spec PyProof.Rows L2 PC
/-! ### data of any kind -/
section
variable {K : PySem.W.Frag} {ε : WX} {G : Gm K} {α β γ τ : Type} {S : Store K} {F : Pl} {Z : Pl} {H : Hp}
theorem atL_py : ∀ {ds : List PyData} {vs : List V}, DatPL K Z H ds vs → AtL Z H (ds.map (kPy (K := K))) vs
  | [], _, h => by simp only [DatPL] at h; exact h
  | d :: ds, _, h => by
    simp only [DatPL] at h
    obtain ⟨v, r, e, h1, t⟩ := h
    exact ⟨v, r, e, h1, atL_py t⟩
theorem datp_seq {d : PyData} {v : V} {ds : List PyData} (h : DatP K Z H d v) (e : seqD d = some ds) :
    ∃ a xs, v = .ref a ∧ AtL Z H (ds.map (kPy (K := K))) xs ∧ ((¬ Z a ∧ Rd H a (.lst xs)) ∨ ((¬ Z a ∨ SqT K (fun _ => none) a xs) ∧ SqT K H a xs)) := by
  cases d with
  | list l =>
    simp only [DatP] at h
    obtain ⟨a, xs, e1, n, s, l⟩ := h
    cases e
    exact ⟨a, xs, e1, atL_py l, .inl ⟨n, s⟩⟩
  | tuple l =>
    simp only [DatP] at h
    obtain ⟨a, xs, e1, n, s, l⟩ := h
    cases e
    exact ⟨a, xs, e1, atL_py l, .inr ⟨n, s⟩⟩
  | none => cases e
  | bool _ => cases e
  | int _ => cases e
  | str _ => cases e
  | dict _ => cases e
/-- a datum as one of a kind -/
def Oc {K : PySem.W.Frag} {α : Type} (r : α → Dm K) (f : α → PyData) : Prop := ∀ x Z H v, DatP K Z H (f x) v → (r x).at_ Z H v
def wAs {K : PySem.W.Frag} {α : Type} (f : α → PyData) (d : PyData) : W K α := fun Q _ S => ∃ x, d = f x ∧ Q x S
theorem sim_as {te : TE} {r : α → Dm K} {f : α → PyData} {m : W K PyData} (o : Oc r f) (h : Sim ε G te kPy m) : Sim ε G te r (bnd m (wAs f)) := by
  intro S F σ H Q Qp Ep w s hm hQ hE
  refine h S F σ H _ _ Ep w s hm (fun d S1 H1 v hx h1 hv => ?_) hE
  obtain ⟨x, rfl, hq⟩ := hx
  exact hQ x S1 H1 v hq h1 (o _ _ _ _ hv)
theorem oc_I : Oc (K := K) kI PyData.int := fun _ _ _ _ h => h
/-- walked -/
def wSeq {K : PySem.W.Frag} {β : Type} (d : PyData) (k : List PyData → W K β) : W K β := fun Q E S => ∃ ds, seqD d = some ds ∧ k ds Q E S
theorem simI_py {i : Nat} {d : PyData} (h : G[i]? = some (some (kPy d))) : SimI ε G (iOr (iList K (tVar i)) (iTup K (tVar i))) kPy (wSeq d fun xs => ret (xs, nI)) := by
  intro S F σ H RI Qp Ep w s ⟨ds, e, hq⟩ hQ hE
  obtain ⟨v, ev, hv⟩ := s.slot i _ h
  obtain ⟨a, xs, rfl, l, q | q⟩ := datp_seq hv e
  · exact .inl ⟨_, ev, a, rfl, ⟨xs, .inl q.2⟩, hQ ds _ _ S H hq (.refl w) (iter_list q.1 q.2 l)⟩
  · exact .inr ⟨_, ev, a, rfl, ⟨xs, q.2⟩, hQ ds _ _ S H hq (.refl w) (iter_tup q.1 q.2 l)⟩
def wSortPy {K : PySem.W.Frag} (d : PyData) : W K (List Int) := fun Q _ S => ∃ ns, seqD d = some (ns.map .int) ∧ Q (isort ns) S
theorem cb_sortedPy : CalB K (PC.rSorted K) (fun x : PyData × Unit => [kPy x.1]) (kL kI) (fun x => wSortPy x.1) := by
  intro S F H x vs Q Qp Ep wd h ⟨ns, e, hf⟩ hQ
  obtain ⟨v, rfl, hv⟩ := at1 h
  obtain ⟨a, xs, rfl, l, q⟩ := datp_seq hv e
  have el : xs = ns.map V.int := by
    have : AtL (Zd S F) H (ns.map (kI (K := K))) xs := by rw [List.map_map] at l; exact l
    exact atL_ints this
  subst el
  refine ⟨a, ns, rfl, q.imp (fun q => .inl q.2) (fun q => q.2), fun ms b hp hs hb => ?_⟩
  obtain rfl := isort_is hp hs
  exact hQ _ S _ _ hf (wd.new hb) ⟨b, _, rfl, wd.free hb, upd_same, ints_at _⟩
/-- isinstance(x, (list, tuple)) and its like -/
theorem cb_isiT2 : CalB K (rIsiT K) (fun x : PyData × (String × String) × Unit => [kPy x.1, kP kTy kTy x.2.1]) kB (fun x => wAss (x.2.1 = ("list", "tuple")) (ret (isD x.1 "list" || isD x.1 "tuple"))) := by
  intro S F H x vs Q Qp Ep wd h hf hQ
  obtain ⟨v, w, rfl, h1, h2⟩ := at2 h
  obtain ⟨a, xs, rfl, n, s, u1, r1, rfl, q1, u2, r2, rfl, q2, rfl⟩ := h2
  have e1 : u1 = .ty x.2.1.1 := q1
  have e2 : u2 = .ty x.2.1.2 := q2
  rw [hf.1] at e1 e2
  subst e1 e2
  exact s_isiLT (DatP.dat _ _ h1) s (hQ _ S H _ hf.2 (.refl wd) mk_bl)
end
end TL
namespace TL
open PySem PySem.Spec PyProof.Rows L2 PC
/-- a draw -/
theorem nxt_pot {K : PySem.W.Frag} {S : Store K} {F : Pl} {H H' : Hp} {p : Addr} (w : Wd S F H) (hp : S p = some .pot) (r : R p H H') : Nxt S F H S H' := by
  have st : Stp (Zd S F) H (Zd S F) H' := ⟨fun b o n e => r.keep b o (fun z => n (.inl (by rw [z, hp]; exact fun w => nomatch w))) e, fun _ z => .inl z⟩
  refine ⟨⟨fun b o n e => r.keep b o (fun z => by rw [z, hp] at n; cases n) e, fun _ z => .inl z, fun b z => ?_⟩, r.one w.one, fun a c e => ?_, fun a z => (w.foc a z).keep fun o e => r.keep a o (fun q => by rw [q] at z; rw [w.dis _ z] at hp; cases hp) e, w.dis⟩
  · by_cases q : b = p
    · subst q; exact r.occ z
    · cases e : H b with
      | none => exact absurd e z
      | some o => rw [r.keep b o q e]; exact fun w => nomatch w
  · by_cases q : a = p
    · subst q
      rw [hp] at e
      cases e
      exact r.pot (w.cell _ _ hp)
    · exact (w.cell a c e).up st fun o e => r.keep a o q e
end TL
namespace TL
open PySem PySem.Spec PyProof.Rows L2 PC
/-! ### a list or a tuple -/
section
variable {K : PySem.W.Frag} {ε : WX} {G : Gm K} {α : Type} {S : Store K} {F : Pl}
end
end TL
namespace TL
open PySem PySem.Spec PyProof.Rows L2 PC
end TL

set_option Elab.async false
set_option linter.all false
set_option maxRecDepth 100000
set_option maxHeartbeats 2000000
/-! PcP: laws of wishes, told without a program. -/
namespace TL
open PySem PySem.Spec PyProof.Rows L2 PC
section
variable {K : PySem.W.Frag} {α β γ T ρ : Type} {S : Store K} {Q : α → Store K → Prop} {E : Err K → Store K → Prop}
theorem ret_bnd (x : α) (k : α → W K β) : bnd (ret x) k = k x := id rfl
theorem bnd_ret (m : W K α) : bnd m (fun x => ret x) = m := id rfl
theorem bnd_bnd (m : W K α) (k : α → W K β) (l : β → W K γ) : bnd (bnd m k) l = bnd m fun x => bnd (k x) l := id rfl
theorem raise_bnd (e : Err K) (k : α → W K β) : bnd (wRaise e : W K α) k = wRaise e := id rfl
theorem ass_bnd (c : Prop) (m : W K α) (k : α → W K β) : bnd (wAss c m) k = wAss c (bnd m k) := id rfl
theorem if_bnd (b : Bool) (m n : W K α) (k : α → W K β) : bnd (wIf b m n) k = wIf b (bnd m k) (bnd n k) := by cases b <;> exact id rfl
theorem if_t (m n : W K α) : wIf true m n = m := by funext Q E S; unfold wIf; rw [if_pos rfl]
theorem if_f (m n : W K α) : wIf false m n = n := by funext Q E S; unfold wIf; rw [if_neg (by decide)]
theorem if_not (b : Bool) (m n : W K α) : wIf (!b) m n = wIf b n m := by cases b <;> exact id rfl
theorem if_rets (b c d : Bool) : (wIf b (ret c) (ret d) : W K Bool) = ret (if b = true then c else d) := by cases b <;> exact id rfl
theorem ass_t {c : Prop} {m : W K α} (h : c) : wAss c m = m := by funext Q E S; exact propext ⟨fun x => x.2, fun x => ⟨h, x⟩⟩
theorem ass_true (m : W K α) : wAss True m = m := ass_t trivial
theorem calm_ret (x : α) : wCalm (ret x : W K α) = ret x := id rfl
theorem calm_bnd (m : W K α) (k : α → W K β) : wCalm (bnd m k) = bnd (wCalm m) fun x => wCalm (k x) := id rfl
theorem calm_ass (c : Prop) (m : W K α) : wCalm (wAss c m) = wAss c (wCalm m) := id rfl
theorem out_rt (x : α) (d : Option α) : outW (ret (Flow.rt x)) d = (ret x : W K α) := id rfl
theorem out_nx (x : α) : outW (ret (Flow.nx ())) (some x) = (ret x : W K α) := id rfl
theorem out_bnd (m : W K β) (k : β → W K (Flow Unit α)) (d : Option α) : outW (bnd m k) d = bnd m fun x => outW (k x) d := id rfl
theorem out_raise (e : Err K) (d : Option α) : outW (wRaise e) d = (wRaise e : W K α) := id rfl
theorem out_ass (c : Prop) (m : W K (Flow Unit α)) (d : Option α) : outW (wAss c m) d = wAss c (outW m d) := id rfl
theorem out_if (b : Bool) (m n : W K (Flow Unit α)) (d : Option α) : outW (wIf b m n) d = wIf b (outW m d) (outW n d) := by cases b <;> exact id rfl
theorem aft_nx {T' : Type} (k : T' → W K (Flow T ρ)) (s : T') : aft k (.nx s) = k s := id rfl
theorem aft_rt {T' : Type} (k : T' → W K (Flow T ρ)) (x : ρ) : aft k (.rt x) = ret (.rt x) := id rfl
theorem seq_bnd (d : PyData) (k : List PyData → W K α) (l : α → W K β) : bnd (wSeq d k) l = wSeq d fun ds => bnd (k ds) l := by
  funext Q E S; exact id rfl
theorem pk_bnd {δ : Type} (r : δ → Dm K) (a : Addr) (k : List δ → W K α) (l : α → W K β) : bnd (wPk r a k) l = wPk r a fun ds => bnd (k ds) l := id rfl
theorem setF_bnd {δ : Type} (C : Addr) (f : Str) (a : Addr) (d : Dm K) (k : W K α) (l : α → W K β) : bnd (wSetF C f a d k) l = wSetF C f a d (bnd k l) := id rfl
theorem setI_bnd (a : Addr) (i : Int) (d : Dm K) (k : W K α) (l : α → W K β) : bnd (wSetI a i d k) l = wSetI a i d (bnd k l) := id rfl
theorem app_bnd (a : Addr) (d : Dm K) (k : W K α) (l : α → W K β) : bnd (wApp a d k) l = wApp a d (bnd k l) := id rfl
theorem putK_bnd (a : Addr) (i : Key) (d : Dm K) (k : W K α) (l : α → W K β) : bnd (wPutK a i d k) l = wPutK a i d (bnd k l) := id rfl
theorem putT_bnd (a : Addr) (i : List Key) (d : Dm K) (k : W K α) (l : α → W K β) : bnd (wPutT a i d k) l = wPutT a i d (bnd k l) := id rfl
theorem rcv_bnd (g : Store K → Prop) (m : W K α) (l : α → W K β) : bnd (wRcv g m) l = wRcv g (bnd m l) := id rfl
theorem pk_out {δ : Type} (r : δ → Dm K) (a : Addr) (k : List δ → W K (Flow Unit α)) (d : Option α) : outW (wPk r a k) d = wPk r a fun ds => outW (k ds) d := id rfl
theorem setF_out (C : Addr) (f : Str) (a : Addr) (d : Dm K) (k : W K (Flow Unit α)) (l : Option α) : outW (wSetF C f a d k) l = wSetF C f a d (outW k l) := id rfl
theorem setI_out (a : Addr) (i : Int) (d : Dm K) (k : W K (Flow Unit α)) (l : Option α) : outW (wSetI a i d k) l = wSetI a i d (outW k l) := id rfl
theorem app_out (a : Addr) (d : Dm K) (k : W K (Flow Unit α)) (l : Option α) : outW (wApp a d k) l = wApp a d (outW k l) := id rfl
theorem putK_out (a : Addr) (i : Key) (d : Dm K) (k : W K (Flow Unit α)) (l : Option α) : outW (wPutK a i d k) l = wPutK a i d (outW k l) := id rfl
theorem rcv_out (g : Store K → Prop) (m : W K (Flow Unit α)) (l : Option α) : outW (wRcv g m) l = wRcv g (outW m l) := id rfl
theorem calm_calm (m : W K α) : wCalm (wCalm m) = wCalm m := id rfl
theorem aftT_nx {T' : Type} (k : T' → W K (Flow T ρ)) (s : T') : aftT k (.nx s) = k s := id rfl
theorem aftT_rt {T' : Type} (k : T' → W K (Flow T ρ)) (x : ρ) : aftT k (.rt x) = ret (.rt x) := id rfl
theorem as_int (i : Int) : wAs PyData.int (.int i) = (ret i : W K Int) := by
  funext Q E S
  exact propext ⟨fun ⟨x, e, h⟩ => by cases e; exact h, fun h => ⟨i, rfl, h⟩⟩
theorem seq_of {d : PyData} {ds : List PyData} {k : List PyData → W K α} (h : seqD d = some ds) : wSeq d k = k ds := by
  funext Q E S
  exact propext ⟨fun ⟨x, e, h'⟩ => by rw [h] at e; cases e; exact h', fun q => ⟨ds, h, q⟩⟩
theorem sortPy_of {d : PyData} {ns : List Int} (h : seqD d = some (ns.map .int)) : wSortPy d = (ret (isort ns) : W K (List Int)) := by
  funext Q E S
  refine propext ⟨fun ⟨x, e, h'⟩ => ?_, fun q => ⟨ns, h, q⟩⟩
  rw [h] at e
  have := congrArg intsD (Option.some.inj e)
  rw [intsD_map, intsD_map] at this
  subst this; exact h'
theorem rcv_tt (m : W K α) : wRcv (fun _ => True) m = m := by funext Q E S; exact propext ⟨fun x => x.2, fun x => ⟨trivial, x⟩⟩
theorem rng_0 (b : Nat) : rng 0 (b : Int) = intsTo b := by
  simp [rng, intsTo]
theorem fmap_eq {c : α → W K Bool} {f : α → W K β} {c' : α → Bool} {f' : α → β} : ∀ {xs : List α}, (∀ x ∈ xs, c x = ret (c' x)) → (∀ x ∈ xs, c' x = true → f x = ret (f' x)) → fmapW nI c f xs = ret ((xs.filter c').map f')
  | [], _, _ => by funext Q E S; exact propext ⟨fun h => h.2, fun h => ⟨trivial, h⟩⟩
  | x :: xs, h, g => by
    have ih := fmap_eq (xs := xs) (fun y m => h y (List.mem_cons_of_mem _ m)) (fun y m => g y (List.mem_cons_of_mem _ m))
    have h0 := h x List.mem_cons_self
    have g0 := g x List.mem_cons_self
    have e : ∀ Q E S, fmapW nI c f (x :: xs) Q E S = (bnd (c x) (fun b => wIf b (bnd (f x) fun y => bnd (fmapW nI c f xs) fun ys => ret (y :: ys)) (fmapW nI c f xs))) Q E S := fun Q E S => propext ⟨fun h => h.2, fun h => ⟨trivial, h⟩⟩
    funext Q E S
    rw [e, h0, ret_bnd, ih]
    cases hc : c' x with
    | true => rw [if_t, g0 hc, ret_bnd, ret_bnd, List.filter_cons_of_pos hc, List.map_cons]
    | false => rw [if_f, List.filter_cons_of_neg (by rw [hc]; decide)]
theorem fmap_all {f : α → W K β} {f' : α → β} {xs : List α} (g : ∀ x ∈ xs, f x = ret (f' x)) : fmapW nI (fun _ => ret true) f xs = ret (xs.map f') := by
  rw [fmap_eq (c' := fun _ => true) (f' := f') (fun _ _ => rfl) fun x m _ => g x m, List.filter_eq_self.mpr fun _ _ => rfl]
theorem fmap_ret (f : α → β) (xs : List α) : fmapW nI (fun _ => (ret true : W K Bool)) (fun x => ret (f x)) xs = ret (xs.map f) := fmap_all fun _ _ => rfl
theorem fmap_filt {c : α → W K Bool} {c' : α → Bool} {xs : List α} (h : ∀ x ∈ xs, c x = ret (c' x)) : fmapW nI c (fun x => ret x) xs = ret (xs.filter c') := by
  rw [fmap_eq (f' := fun x => x) h fun _ _ _ => rfl, List.map_id']
theorem ix_eq {xs : List α} {i : Int} {x : α} (h0 : 0 ≤ i) (h : xs[i.toNat]? = some x) : wIx xs i = (ret x : W K α) := by
  funext Q E S
  exact propext ⟨fun ⟨_, y, e, q⟩ => by rw [h] at e; cases e; exact q, fun q => ⟨h0, x, h, q⟩⟩
theorem sli_one {α : Type} (xs : List α) : sli xs (some 1) none = xs.drop 1 := by
  unfold sli
  rw [show HT.sIx xs.length 0 (some 1) = min 1 xs.length from HT.sIx_nat _ _ 1, HT.sIx_none]
  cases xs with
  | nil => rfl
  | cons x xs =>
    rw [show min 1 (x :: xs).length = 1 by rw [List.length_cons]; omega]
    exact List.take_of_length_le (by rw [List.length_drop]; exact Nat.le_refl _)
theorem enum_bits (n m : Nat) : enumI (bitsOf n m) = (List.range n).map fun i => (((i : Nat) : Int), bitI m i) := by
  unfold enumI bitsOf
  refine List.ext_getElem (by simp) fun i h1 h2 => ?_
  simp
/-! ### what may come out, the store as it was -/
def Spec (m : W K α) (S : Store K) (P : α → Prop) : Prop := ∀ Q E, (∀ y, P y → Q y S) → m Q E S
theorem Spec.ap {m : W K β} {k : β → W K α} {P : β → Prop} (h : Spec m S P) (g : ∀ y, P y → k y Q E S) : (bnd m k) Q E S := h _ _ g
variable {P : α → Prop}
theorem Spec.ret {x : α} (h : P x) : Spec (TL.ret x) S P := fun Q E q => q x h
theorem Spec.bnd {m : W K β} {k : β → W K α} {R : β → Prop} (h : Spec m S R) (g : ∀ y, R y → Spec (k y) S P) : Spec (TL.bnd m k) S P := fun Q E q => h _ _ fun y r => g y r Q E q
theorem Spec.bndc {m : W K β} {k : β → W K α} {R : β → Prop} (h : Spec m S R) (g : ∀ y, R y → Spec (k y) S P) : Spec (TL.bnd (wCalm m) k) S P := fun Q E q => h _ _ fun y r => g y r Q E q
theorem Spec.calm {m : W K α} (h : Spec m S P) : Spec (wCalm m) S P := fun Q E q => h _ _ q
theorem Spec.ass {c : Prop} {m : W K α} (hc : c) (h : Spec m S P) : Spec (wAss c m) S P := fun Q E q => ⟨hc, h Q E q⟩
theorem Spec.imp {m : W K α} {R : α → Prop} (h : Spec m S R) (g : ∀ x, R x → P x) : Spec m S P := fun Q E q => h Q E fun y r => q y (g y r)
theorem Spec.eq {m : W K α} {x : α} (h : Spec m S (· = x)) (q : P x) : Spec m S P := h.imp fun _ e => e ▸ q
theorem Spec.ix {xs : List α} {i : Int} (h0 : 0 ≤ i) (h : i < xs.length) : Spec (wIx xs i) S (fun y => y ∈ xs) := fun Q E q => by
  have hi : i.toNat < xs.length := by omega
  exact ⟨h0, xs[i.toNat], List.getElem?_eq_getElem hi, q _ (List.getElem_mem _)⟩
def All2 (P : α → β → Prop) : List α → List β → Prop
  | [], ys => ys = []
  | x :: xs, ys => ∃ y r, ys = y :: r ∧ P x y ∧ All2 P xs r
theorem All2.len {P : α → β → Prop} : ∀ {xs : List α} {ys : List β}, All2 P xs ys → ys.length = xs.length
  | [], _, h => by cases h; rfl
  | _ :: _, _, ⟨y, r, e, _, h⟩ => by subst e; rw [List.length_cons, List.length_cons, h.len]
theorem All2.mem {P : α → β → Prop} {y : β} : ∀ {xs : List α} {ys : List β}, All2 P xs ys → y ∈ ys → ∃ x ∈ xs, P x y
  | [], _, h, m => by cases h; simp at m
  | x :: xs, _, ⟨z, r, e, p, h⟩, m => by
    subst e
    rcases List.mem_cons.mp m with rfl | m
    · exact ⟨x, List.mem_cons_self, p⟩
    · obtain ⟨x', m', p'⟩ := h.mem m
      exact ⟨x', List.mem_cons_of_mem _ m', p'⟩
theorem All2.map {P : α → β → Prop} {f : α → γ} {g : β → γ} (hf : ∀ x y, P x y → f x = g y) : ∀ {xs : List α} {ys : List β}, All2 P xs ys → xs.map f = ys.map g
  | [], _, h => by cases h; rfl
  | x :: xs, _, ⟨z, r, e, p, h⟩ => by rw [e, List.map_cons, List.map_cons, hf _ _ p, All2.map hf h]
theorem All2.of {P : α → β → Prop} {f : α → β} : ∀ {xs : List α}, (∀ x ∈ xs, P x (f x)) → All2 P xs (xs.map f)
  | [], _ => rfl
  | x :: xs, h => ⟨f x, xs.map f, rfl, h x List.mem_cons_self, All2.of fun y m => h y (List.mem_cons_of_mem _ m)⟩
theorem All2.swap {δ : Type} {P : α → γ → Prop} {R : β → δ → Prop} {g : δ → α} {F : γ → β} : ∀ {ms : List δ} {ys : List γ}, All2 P (ms.map g) ys → (∀ m ∈ ms, ∀ y, P (g m) y → R (F y) m) → All2 R (ys.map F) ms
  | [], _, h, _ => by cases h; rfl
  | m :: ms, _, ⟨y, r, e, p, h⟩, k => by
    subst e
    exact ⟨m, ms, rfl, k m List.mem_cons_self y p, All2.swap h fun z hz => k z (List.mem_cons_of_mem _ hz)⟩
theorem All2.imp {P R : α → β → Prop} (hf : ∀ x y, P x y → R x y) : ∀ {xs : List α} {ys : List β}, All2 P xs ys → All2 R xs ys
  | [], _, h => h
  | x :: xs, _, ⟨z, r, e, p, h⟩ => ⟨z, r, e, hf _ _ p, h.imp hf⟩
theorem Spec.fmap {f : α → W K β} {P : α → β → Prop} : ∀ {xs : List α}, (∀ x ∈ xs, Spec (f x) S (P x)) → Spec (fmapW nI (fun _ => TL.ret true) f xs) S (All2 P xs)
  | [], _ => fun Q E q => ⟨trivial, q _ rfl⟩
  | x :: xs, h => fun Q E q => ⟨trivial, by
    have ih := Spec.fmap (xs := xs) fun y m => h y (List.mem_cons_of_mem _ m)
    rw [ret_bnd, if_t]
    exact h x List.mem_cons_self _ _ fun y p => ih _ _ fun ys ps => q _ ⟨y, ys, rfl, p, ps⟩⟩
/-! ### loops -/
/-- what is wanted behind a turn -/
def LQ (N : T → Store K → Prop) (Q : Flow T ρ → Store K → Prop) : Flow T ρ → Store K → Prop
  | .nx s, S => N s S
  | .bk s, S => Q (.nx s) S
  | .rt y, S => Q (.rt y) S
theorem for_ap {I : Store K → Prop} {f : α → T → W K (Flow T ρ)} {Q : Flow T ρ → Store K → Prop} (J : Nat → T → Store K → Prop) {xs : List α}
    (st : ∀ i x s S N, xs[i]? = some x → J i s S → (∀ s S, J (i + 1) s S → N s S) → I S ∧ f x s (LQ N Q) E S)
    (en : ∀ s S, J xs.length s S → I S ∧ Q (.nx s) S) {s : T} {S : Store K} (h0 : J 0 s S) : forW I f xs s Q E S := by
  have go : ∀ (zs : List α) (n : Nat), (∀ i x, zs[i]? = some x → xs[n + i]? = some x) → n + zs.length = xs.length → ∀ s S, J n s S → forW I f zs s Q E S := by
    intro zs
    induction zs with
    | nil => intro n _ hn s S h; exact en s S (by rw [← hn]; exact h)
    | cons z zs ih =>
      intro n hz hn s S h
      have hf := st n z s S (fun s' S' => forW I f zs s' Q E S') (hz 0 z rfl) h (fun s' S' g => ih (n + 1) (fun i x e => by rw [show n + 1 + i = n + (i + 1) by omega]; exact hz (i + 1) x (by simpa using e)) (by rw [List.length_cons] at hn; omega) s' S' g)
      refine ⟨hf.1, ?_⟩
      have e : (LQ (fun s' S' => forW I f zs s' Q E S') Q) = (fun q S' => match q with | .nx s' => forW I f zs s' Q E S' | .bk s' => Q (.nx s') S' | .rt y => Q (.rt y) S') := by
        funext q S'; cases q <;> rfl
      have h2 := hf.2
      rw [e] at h2
      exact h2
  exact go xs 0 (fun i x e => by rw [Nat.zero_add]; exact e) (by omega) s S h0
/-- what may come out of a turn, the store as it was -/
theorem Spec.for {f : α → T → W K (Flow T ρ)} (J : Nat → T → Prop) {R : Flow T ρ → Prop} {xs : List α}
    (st : ∀ i x s, xs[i]? = some x → J i s → Spec (f x s) S (fun q => match q with | .nx s' => J (i + 1) s' | .bk s' => R (.nx s') | .rt y => R (.rt y)))
    (en : ∀ s, J xs.length s → R (.nx s)) {s : T} (h0 : J 0 s) : Spec (forW nI f xs s) S R := fun Q E q =>
  for_ap (fun i s S' => S' = S ∧ J i s) (fun i x s S' N e ⟨hS, hJ⟩ hN => ⟨trivial, by
      subst hS
      refine st i x s e hJ _ _ fun y hy => ?_
      cases y with
      | nx s' => exact hN _ _ ⟨rfl, hy⟩
      | bk s' => exact q _ hy
      | rt y => exact q _ hy⟩) (fun s S' ⟨hS, hJ⟩ => ⟨trivial, by subst hS; exact q _ (en s hJ)⟩) ⟨rfl, h0⟩
theorem Spec.try {m : W K α} {h : Err K → W K α} (g : Spec m S P) : Spec (wTry m h) S P := fun Q E q => g _ _ q
theorem setF_ap {C a : Addr} {f : Str} {d : Dm K} {k : W K α} {fs : List (Str × Dm K)} (e : S a = some (.ins C fs)) (l : fs.length < 1000) (h : k Q E (S.set a (.ins C (setF f d fs)))) : wSetF C f a d k Q E S := ⟨fs, e, l, h⟩
theorem getF_ap {C a : Addr} {f : Str} {s : β → Dm K} {k : β → W K α} {fs : List (Str × Dm K)} {x : β} (e : S a = some (.ins C fs)) (l : fs.lookup f = some (s x)) (h : k x Q E S) : (TL.bnd (wGetF C f s a) k) Q E S := ⟨fs, x, e, l, h⟩
/-! ### a comprehension that changes the store -/
/-! ### things made -/
theorem mkfrz {C : Addr} {τ : Type} {w : Addr × τ → W K Unit} {fs : α → List (Str × Dm K)} {x : τ}
    (h : ∀ a, S a = none → w (a, x) (fun _ S' => ∃ y, S' a = some (.ins C (fs y)) ∧ Q y (S'.del a)) (fun e S' => E e (S'.del a)) (S.set a (.ins C []))) : (TL.bnd (wMk C w x) (wFrz C fs)) Q E S := h
theorem while_ap {c : T → W K Bool} {f : T → W K (Flow T ρ)} {Q : Flow T ρ → Store K → Prop} {s0 : T} {S0 : Store K} (I : Nat → T → Store K → Prop) (n : Nat) (h0 : I n s0 S0)
    (st : ∀ n s S, I n s S → ∃ b, (∀ R : Bool → Store K → Prop, R b S → c s R E S) ∧ (b = true → ∀ N : T → Store K → Prop, (∀ s' S' n', n' < n → I n' s' S' → N s' S') → f s (LQ N Q) E S) ∧ (b = false → Q (.nx s) S)) : whileW c f s0 Q E S0 := by
  refine ⟨I, ⟨n, h0⟩, fun n s S h => ?_⟩
  obtain ⟨b, h1, h2, h3⟩ := st n s S h
  refine h1 _ ?_
  cases b with
  | true =>
    show f s _ E S
    have e : (LQ (fun s' S' => ∃ n', n' < n ∧ I n' s' S') Q) = (fun q S' => match q with | .nx s' => ∃ n', n' < n ∧ I n' s' S' | .bk s' => Q (.nx s') S' | .rt y => Q (.rt y) S') := by
      funext q S'; cases q <;> rfl
    exact e ▸ h2 rfl _ fun s' S' n' l i => ⟨n', l, i⟩
  | false => exact h3 rfl
/-- a loop that only reckons, with a measure -/
theorem while_eq {b : T → Bool} {g : T → T} {f : T → W K (Flow T ρ)} {Q : Flow T ρ → Store K → Prop} (J : T → Prop) (μ : T → Nat) (hf : ∀ s, J s → b s = true → f s = ret (.nx (g s)) ∧ J (g s) ∧ μ (g s) < μ s) {s0 : T} {S0 : Store K} (h0 : J s0)
    (q : ∀ s, J s → b s = false → Q (.nx s) S0) : whileW (fun s => ret (b s)) f s0 Q E S0 :=
  while_ap (fun n s S => S = S0 ∧ J s ∧ n = μ s) (μ s0) ⟨rfl, h0, rfl⟩ fun n s S ⟨hS, hJ, hn⟩ => ⟨b s, fun R r => r, fun hb N hN => by
    obtain ⟨e, j, l⟩ := hf s hJ hb
    rw [e]
    exact hN _ _ _ (by omega) ⟨hS, j, rfl⟩, fun hb => hS ▸ q s hJ hb⟩
theorem thaw_ap {r : β → Dm K} {xs : List β} {k : Addr → W K α} (h : ∀ a, S a = none → k a Q E (S.set a (.lst (xs.map r)))) : (TL.bnd (wThaw r xs) k) Q E S := h
theorem setI_ap {a : Addr} {i : Int} {d : Dm K} {c : W K α} {ds : List (Dm K)} (e : S a = some (.lst ds)) (h0 : 0 ≤ i) (h1 : i < ds.length) (h : c Q E (S.set a (.lst (ds.set i.toNat d)))) : wSetI a i d c Q E S := ⟨ds, e, h0, h1, h⟩
/-! ### what may come out, the store with more in it -/
def Ext (S S' : Store K) : Prop := ∀ p c, S p = some c → S' p = some c
theorem Ext.refl : Ext S S := fun _ _ h => h
theorem Ext.trans {S1 S2 : Store K} (a : Ext S S1) (b : Ext S1 S2) : Ext S S2 := fun p c h => b p c (a p c h)
theorem Ext.set {a : Addr} {c : Cell K} (h : S a = none) : Ext S (S.set a c) := fun p d e => by
  rw [set_ne (fun z => by rw [z, h] at e; cases e)]; exact e
theorem Ext.over {S1 : Store K} {a : Addr} {c : Cell K} (x : Ext S S1) (h : S a = none) : Ext S (S1.set a c) := fun p d e => by
  rw [set_ne (fun z => by rw [z, h] at e; cases e)]; exact x p d e
theorem Ext.del {S1 : Store K} {a : Addr} (x : Ext S S1) (h : S a = none) : Ext S (S1.del a) := fun p d e => by
  rw [del_ne (fun z => by rw [z, h] at e; cases e)]; exact x p d e
def SpecX (m : W K α) (S : Store K) (P : α → Prop) : Prop := ∀ Q E, (∀ y S', Ext S S' → P y → Q y S') → m Q E S
theorem Spec.x {m : W K α} (h : Spec m S P) : SpecX m S P := fun Q E q => h _ _ fun y r => q y S Ext.refl r
theorem SpecX.ap {m : W K β} {k : β → W K α} {P : β → Prop} (h : SpecX m S P) (g : ∀ y S', Ext S S' → P y → k y Q E S') : (TL.bnd m k) Q E S := h _ _ g
theorem SpecX.ret {x : α} (h : P x) : SpecX (TL.ret x) S P := fun Q E q => q x S Ext.refl h
theorem SpecX.bnd {m : W K β} {k : β → W K α} {R : β → Prop} (h : SpecX m S R) (g : ∀ y S', Ext S S' → R y → SpecX (k y) S' P) : SpecX (TL.bnd m k) S P := fun Q E q => h _ _ fun y S' x r => g y S' x r Q E fun z S2 x2 p => q z S2 (x.trans x2) p
theorem SpecX.bndc {m : W K β} {k : β → W K α} {R : β → Prop} (h : SpecX m S R) (g : ∀ y S', Ext S S' → R y → SpecX (k y) S' P) : SpecX (TL.bnd (wCalm m) k) S P := fun Q E q => h _ _ fun y S' x r => g y S' x r Q E fun z S2 x2 p => q z S2 (x.trans x2) p
theorem SpecX.sb {m : W K β} {k : β → W K α} {R : β → Prop} (h : Spec m S R) (g : ∀ y, R y → SpecX (k y) S P) : SpecX (TL.bnd m k) S P := fun Q E q => h _ _ fun y r => g y r Q E q
theorem SpecX.calm {m : W K α} (h : SpecX m S P) : SpecX (wCalm m) S P := fun Q E q => h _ _ q
theorem SpecX.ass {c : Prop} {m : W K α} (hc : c) (h : SpecX m S P) : SpecX (wAss c m) S P := fun Q E q => ⟨hc, h Q E q⟩
theorem SpecX.imp {m : W K α} {R : α → Prop} (h : SpecX m S R) (g : ∀ x, R x → P x) : SpecX m S P := fun Q E q => h Q E fun y S' x r => q y S' x (g y r)
theorem SpecX.fmap {f : α → W K β} {P : α → β → Prop} : ∀ {xs : List α} {S : Store K}, (∀ x ∈ xs, ∀ S', Ext S S' → SpecX (f x) S' (P x)) → SpecX (fmapW nI (fun _ => TL.ret true) f xs) S (All2 P xs)
  | [], S, _ => fun Q E q => ⟨trivial, q _ _ Ext.refl rfl⟩
  | x :: xs, S, h => fun Q E q => ⟨trivial, by
    rw [ret_bnd, if_t]
    exact h x List.mem_cons_self S Ext.refl _ _ fun y S1 x1 p => SpecX.fmap (fun z m S2 x2 => h z (List.mem_cons_of_mem _ m) S2 (x1.trans x2)) _ _ fun ys S3 x3 ps => q _ S3 (x1.trans x3) ⟨y, ys, rfl, p, ps⟩⟩
theorem SpecX.for {f : α → T → W K (Flow T ρ)} (J : Nat → T → Prop) {R : Flow T ρ → Prop} {xs : List α}
    (st : ∀ i x s S', xs[i]? = some x → Ext S S' → J i s → SpecX (f x s) S' (fun q => match q with | .nx s' => J (i + 1) s' | .bk s' => R (.nx s') | .rt y => R (.rt y)))
    (en : ∀ s, J xs.length s → R (.nx s)) {s : T} (h0 : J 0 s) : SpecX (forW nI f xs s) S R := fun Q E q =>
  for_ap (fun i s S' => Ext S S' ∧ J i s) (fun i x s S' N e ⟨hS, hJ⟩ hN => ⟨trivial, by
      refine st i x s S' e hS hJ _ _ fun y S2 x2 hy => ?_
      cases y with
      | nx s' => exact hN _ _ ⟨hS.trans x2, hy⟩
      | bk s' => exact q _ _ (hS.trans x2) hy
      | rt y => exact q _ _ (hS.trans x2) hy⟩) (fun s S' ⟨hS, hJ⟩ => ⟨trivial, q _ _ hS (en s hJ)⟩) ⟨Ext.refl, h0⟩
end
/-! ### data compared -/
def Shp (n : Nat) (d : PyData) : Prop := d.canLay0 = true ∧ d.depth ≤ n
theorem Shp.shaped {n : Nat} {d : PyData} (h : Shp n d) (hn : n ≤ 64) : SeqAt.shaped d = true := by
  unfold SeqAt.shaped
  rw [h.1, decide_eq_true (Nat.le_trans h.2 hn)]; rfl
theorem shp_int {i : Int} {n : Nat} : Shp n (.int i) := ⟨by simp [PyData.canLay0], by simp [PyData.depth]⟩
theorem shp_all {n : Nat} : ∀ {ds : List PyData}, (∀ d ∈ ds, Shp n d) → PyData.canLayAll0 ds = true ∧ PyData.depthAll ds ≤ n
  | [], _ => ⟨by simp [PyData.canLayAll0], by simp [PyData.depthAll]⟩
  | d :: ds, h => by
    have h1 := h d List.mem_cons_self
    have h2 := shp_all (ds := ds) fun e m => h e (List.mem_cons_of_mem _ m)
    exact ⟨by simp [PyData.canLayAll0, h1.1, h2.1], by simp only [PyData.depthAll]; exact Nat.max_le.mpr ⟨h1.2, h2.2⟩⟩
theorem shp_lst {n : Nat} {ds : List PyData} (h : ∀ d ∈ ds, Shp n d) : Shp (n + 1) (.list ds) :=
  ⟨by simp [PyData.canLay0, (shp_all h).1], by simp only [PyData.depth]; exact Nat.succ_le_succ (shp_all h).2⟩
theorem shp_ints (ns : List Int) : Shp 1 (.list (ns.map .int)) := shp_lst fun d h => by obtain ⟨_, _, rfl⟩ := List.mem_map.mp h; exact shp_int
/-- == over data that show values -/
def EqC {α : Type} [DecidableEq α] (f : α → PyData) : Prop := ∀ a b, PyData.eqv (f a) (f b) = decide (a = b)
theorem eqc_int : EqC PyData.int := fun a b => by simp [PyData.eqv]; rfl
theorem eqv_same {d : PyData} {n : Nat} (h : Shp n d) : PyData.eqv d d = true := PySem.SeqAt.eqv_refl d h.1
/-! ### name op= int, where the operation asks something -/
section
variable {X : Cx} {K : PySem.W.Frag} {T ρ : Type}
theorem simS_par3 {α β γ : Type} {ε : WX} {Gh : Option (Gm K)} {G : Gm K} {ts : List TS} {Gof : T → Gm K} {rr : ρ → Dm K} {i j n : Nat} {ta : TA} {r : α → Dm K} {s : β → Dm K} {t : γ → Dm K} {m : W K (α × β × γ × Unit)} {k : α × β × γ × Unit → W K (Flow T ρ)} (l : Le G Gh) (e : SimA ε G ta (fun x : α × β × γ × Unit => [r x.1, s x.2.1, t x.2.2.1]) m)
    (h : ∀ x, SimS ε Gh (((G.set i (some (r x.1))).set j (some (s x.2.1))).set n (some (t x.2.2.1))) ts Gof rr (k x)) : SimS ε Gh G (tPar3 i j n ta :: ts) Gof rr (bnd m k) := by
  intro S0 F H0 S H σ D Qp Ep c hm h1 h2 h3 h4
  refine e S F σ H _ _ Ep c.wd c.sat hm (fun x S1 H1 vs hx r1 hv => ?_) (h4.e c l)
  obtain ⟨v, _, rfl, q1, u, _, rfl, q2, w, _, rfl, q3, rfl⟩ := hv
  refine ⟨v, u, w, rfl, ?_⟩
  exact h x S0 F H0 S1 H1 _ D _ Ep ⟨c.nx.trans r1, (((c.sat.up r1.stp).set q1).set q2).set q3⟩ hx h1 h2 h3 h4
end
end TL

set_option Elab.async false
set_option linter.all false
set_option maxRecDepth 100000
set_option maxHeartbeats 2000000
/-! PcQ: lists of own objects compared. -/
namespace PC
open PySem PySem.SeqAt PySem.Spec PyProof.Rows L2
open AutoSeq1 (wpAny_loadPart')
open MeetsSeq MeetsSeq2 MeetsSeq3 SeqRoads2
section
variable {prog : Program} {w : World} {A : Around} {R : Result → Shared → Prop}
end
end PC
namespace PC
open PySem PySem.Spec PyProof.Rows L2
section
variable {X : Cx} {k : Nat} {f C : Addr} {fd : FuncData} {ps : List Str} {sp : Sp}
end
end PC
namespace TL
open PySem PySem.Spec PyProof.Rows L2 PC
section
variable {K : PySem.W.Frag} {α : Type}
end
end TL
namespace PC
open PySem PySem.Spec PyProof.Rows L2
end PC
namespace TL
open PySem PySem.Spec PyProof.Rows L2 PC
section
variable {K : PySem.W.Frag} {ε : WX} {G : Gm K}
end
end TL
namespace TL
open PySem PySem.Spec PyProof.Rows L2 PC
end TL
namespace PC
open PySem PySem.Spec PyProof.Rows L2
end PC
namespace TL
open PySem PySem.Spec PyProof.Rows L2 PC
section
variable {K : PySem.W.Frag} {α : Type}
end
end TL
namespace TL
open PySem PySem.Spec PyProof.Rows L2 PC
section
variable {K : PySem.W.Frag} {α β : Type} {S : Store K} {Q : α → Store K → Prop} {E : Err K → Store K → Prop}
end
end TL
namespace TL
open PySem PySem.Spec PyProof.Rows L2 PC
section
variable {K : PySem.W.Frag} {α : Type} {ε : WX} {G : Gm K}
/-- what is known not to be None -/
def wSome (o : Option α) : W K α := fun Q _ S => ∃ y, o = some y ∧ Q y S
theorem some_bnd {β : Type} (y : α) (k : α → W K β) : bnd (wSome (some y)) k = k y := by
  funext Q E S
  exact propext ⟨fun ⟨_, e, h⟩ => by cases e; exact h, fun h => ⟨y, rfl, h⟩⟩
end
end TL
namespace TL
open PySem PySem.Spec PyProof.Rows L2 PC
section
variable {K : PySem.W.Frag} {α : Type}
end
end TL
namespace TL
open PySem PySem.Spec PyProof.Rows L2 PC
section
variable {K : PySem.W.Frag} {α : Type} {S : Store K}
end
end TL

set_option Elab.async false
set_option linter.all false
set_option maxRecDepth 100000
set_option maxHeartbeats 2000000
/-! PcR: a walk over zip(..) that gives its pairs to one name. -/
namespace PC
open PySem PySem.Spec PyProof.Rows L2
section
variable {prog : Program} {w : World} {A : Around} {E : Value → Shared → Prop} {s : Shared}
end
end PC

namespace TL
open PySem PySem.Spec PyProof.Rows L2 PC
section
variable {K : PySem.W.Frag} {ε : WX} {G : Gm K} {α β : Type}
end
end TL

namespace PC
open PySem PySem.Spec PyProof.Rows L2
section
variable {X : Cx} {pos p2 : Pos}
end
end PC
namespace TL
open PySem PySem.Spec PyProof.Rows L2 PC
section
variable {K : PySem.W.Frag} {ε : WX} {G : Gm K} {α β : Type}
end
end TL
namespace TL
open PySem PySem.Spec PyProof.Rows L2 PC
section
variable {K : PySem.W.Frag} {ε : WX} {G : Gm K} {α β : Type}
/-- two parts of lists of the store are stored, one after the other -/
theorem simS_swap {T ρ : Type} {Gh : Option (Gm K)} {Gof : T → Gm K} {rr : ρ → Dm K} {ts : List TS} {te to ti to2 tj : TE} {r : α → Dm K} {s : β → Dm K} {m : W K (α × β)} {mo mo2 : W K Addr} {mi mj : W K Int} {k : W K (Flow T ρ)} (l : Le G Gh)
    (e : Sim ε G te (kP r s) m) (o : Sim ε G to kRef mo) (i : Sim ε G ti kI mi) (o2 : Sim ε G to2 kRef mo2) (j : Sim ε G tj kI mj)
    (h : SimS ε Gh G ts Gof rr k) : SimS ε Gh G (tAsg te (gTup K 2 (gCons (gSub to ti rSetL) (gCons (gSub to2 tj rSetL) gNil))) :: ts) Gof rr
      (bnd m fun x => bnd mo fun a => bnd mi fun i => wSetI a i (r x.1) (bnd mo2 fun b => bnd mj fun j => wSetI b j (s x.2) k)) := by
  intro S0 F H0 S H σ D Qp Ep cf hm h1 h2 h3 h4
  refine e S F σ H _ _ Ep cf.wd cf.sat hm (fun x S1 H1 v hx r1 hv => ?_) (h4.e cf l)
  have c1 := cf.to r1
  obtain ⟨t, ys, rfl, nt, et, lt⟩ := hv
  obtain ⟨v1, q1, rfl, hv1, v2, q2, rfl, hv2, rfl⟩ := lt
  refine ⟨t, [v1, v2], rfl, .inl (.inl et), rfl, v1, [v2], rfl, ?_⟩
  refine o S1 F σ H1 _ _ Ep c1.wd c1.sat hx (fun a S2 H2 u hy r2 hu => ?_) (h4.e c1 l)
  have c2 := c1.to r2
  refine i S2 F σ H2 _ _ Ep c2.wd c2.sat hy (fun i S3 H3 w hz r3 hw => ?_) (h4.e c2 l)
  have c3 := c2.to r3
  obtain ⟨ds, ea, h0, hl, hk⟩ := hz
  cases (show u = .ref a from hu)
  obtain rfl := at_int hw
  obtain ⟨vs, e1, q⟩ := c3.wd.cell _ _ ea
  refine ⟨a, vs, i, i.toNat, rfl, rfl, e1, ixN_of h0 (by rw [q.length]; exact hl), ?_⟩
  have sp : Stp (Zd S3 F) H3 (Zd S3 F) (upd H3 a (.lst (vs.set i.toNat v1))) := Stp.put (.inl (by rw [ea]; exact fun z => nomatch z))
  have nx : Nxt S3 F H3 (S3.set a (.lst (ds.set i.toNat (r x.1)))) (upd H3 a (.lst (vs.set i.toNat v1))) := c3.wd.putS ea ⟨_, upd_same, (q.up sp).set _ (Dm.up _ sp ((r2.trans r3).up hv1))⟩
  have c4 := c3.to nx
  have hv24 := ((r2.trans r3).trans nx).up hv2
  refine ⟨v2, [], rfl, ?_⟩
  refine o2 _ F σ _ _ _ Ep c4.wd c4.sat hk (fun b S5 H5 u hy r5 hu => ?_) (h4.e c4 l)
  have c5 := c4.to r5
  refine j S5 F σ H5 _ _ Ep c5.wd c5.sat hy (fun j S6 H6 w hz r6 hw => ?_) (h4.e c5 l)
  have c6 := c5.to r6
  obtain ⟨ds2, ea2, h02, hl2, hk2⟩ := hz
  cases (show u = .ref b from hu)
  obtain rfl := at_int hw
  obtain ⟨vs2, e2, q2⟩ := c6.wd.cell _ _ ea2
  refine ⟨b, vs2, j, j.toNat, rfl, rfl, e2, ixN_of h02 (by rw [q2.length]; exact hl2), ?_⟩
  have sp2 : Stp (Zd S6 F) H6 (Zd S6 F) (upd H6 b (.lst (vs2.set j.toNat v2))) := Stp.put (.inl (by rw [ea2]; exact fun z => nomatch z))
  have nx2 : Nxt S6 F H6 (S6.set b (.lst (ds2.set j.toNat (s x.2)))) (upd H6 b (.lst (vs2.set j.toNat v2))) := c6.wd.putS ea2 ⟨_, upd_same, (q2.up sp2).set _ (Dm.up _ sp2 ((r5.trans r6).up hv24))⟩
  exact ⟨rfl, h S0 F H0 _ _ σ D _ Ep (c6.to nx2) hk2 h1 h2 h3 h4⟩
/-- nothing that was there has changed -/
theorem Wd.same {S : Store K} {F : Pl} {H H' : Hp} (w : Wd S F H) (s : Same H H') : Nxt S F H S H' := by
  refine ⟨⟨fun b o _ e => s b o e, fun _ z => .inl z, fun b z => ?_⟩, ⟨?_, fun a c e => (w.cell a c e).up (Stp.same s) (fun o q => s a o q), fun a z => (w.foc a z).keep fun o q => s a o q, w.dis⟩⟩
  · cases e : H b with
    | none => exact absurd e z
    | some o => rw [s b o e]; exact nofun
  · obtain ⟨o, u, e⟩ := w.one
    exact ⟨o, u, s _ _ e⟩
end
end TL
namespace TL
open PySem PySem.Spec PyProof.Rows L2 PC
section
variable {K : PySem.W.Frag}
end
end TL
namespace TL
open PySem PySem.Spec PyProof.Rows L2 PC
section
variable {K : PySem.W.Frag} {ε : WX} {G : Gm K} {α β : Type}
end
end TL
namespace TL
open PySem PySem.Spec PyProof.Rows L2 PC
section
variable {K : PySem.W.Frag} {ε : WX} {G : Gm K} {α β γ : Type}
/-! ### dicts by tuples -/
/-- a tuple that was made, of things of one kind -/
def kX (r : α → Dm K) : List α → Dm K := fun xs => dP (xs.map r)
theorem co_XT {r : α → Dm K} : Co (kX r) (kT r) id := fun _ _ _ _ h => dP_dT h
theorem cb_tupleLX {r : α → Dm K} : CalB K (rTuple K) (fun x : List α × Unit => [kL r x.1]) (kX r) (fun x => ret x.1) := by
  intro S F H x vs Q Qp Ep wd h hf hQ
  obtain ⟨v, rfl, ⟨a, xs, rfl, n, s, l⟩⟩ := at1 h
  exact ⟨a, xs, rfl, .inl ⟨.inl (.inl s), new_tup wd l fun H' v r' h => hQ _ S H' v hf r' h⟩⟩
end
section
variable {K : PySem.W.Frag} {ε : WX} {G : Gm K} {α β : Type} {T ρ : Type} {Gh : Option (Gm K)} {Gof : T → Gm K} {rr : ρ → Dm K} {ts : List TS} {te to ti : TE} {r : α → Dm K} {rk : β → Dm K} {m : W K α} {mo : W K Addr} {mi : W K β} {k : W K (Flow T ρ)}
end
/-! plain rules -/
section
variable {K : PySem.W.Frag} {α β γ : Type} {S : Store K} {E : Err K → Store K → Prop}
theorem putT_out (a : Addr) (i : List Key) (d : Dm K) (k : W K (Flow Unit α)) (l : Option α) : outW (wPutT a i d k) l = wPutT a i d (outW k l) := id rfl
end
end TL
namespace TL
open PySem PySem.Spec PyProof.Rows L2 PC
section
variable {K : PySem.W.Frag}
end
end TL

set_option Elab.async false
set_option linter.all false
set_option maxRecDepth 100000
set_option maxHeartbeats 2000000
/-! PcW: values of any kind; isinstance of caught errors. -/
namespace TL
open PySem PySem.Spec PyProof.Rows L2 PC
section
variable {K : PySem.W.Frag} {ε : WX} {G : Gm K} {α β γ τ : Type} {S : Store K}
/-! ### a value of any kind: known by its datum -/
/-! ### a list of two things, unpacked -/
/-! ### {} as data -/
theorem sim_dnewP : Sim ε G tDNewK kPy (ret (PyData.dict [])) := by
  intro S F σ H Q Qp Ep w s hm hQ hE d hd
  refine hQ _ S _ _ hm (w.new hd) ?_
  show DatP K _ _ (.dict []) _
  simp only [DatP]
  exact ⟨d, [], rfl, w.free hd, upd_same, by simp only [DatPK]⟩
/-! ### classes, isinstance of a caught error -/
def kCls : Value → Dm K := fun u => ⟨fun _ _ v => ClsV v u, fun _ h => h⟩
theorem sim_clsR {C : Addr} : Sim ε G (tC (.ref C)) kCls (ret (Value.ref C)) := fun S F σ H Q Qp Ep w s hm hQ _ => hQ _ S H _ hm (.refl w) (ClsV.own _)
theorem sim_tupX {tr : TA} {δ : τ → List (Dm K)} {n : W K τ} {r : α → Dm K} (f : τ → List α) (e : ∀ y, δ y = (f y).map r) (hl : ∀ y, (f y).length ≤ 50000) (h : SimA ε G tr δ n) : Sim ε G (tTup tr) (kX r) (bnd n fun y => ret (f y)) :=
  sim_tup h (fun y => by unfold kX; rw [e]) fun y => by rw [e, List.length_map]; exact hl y
def wIsE (e : Err K) (u : Value) : W K Bool := fun Q _ S => ErrQ K e.1 ∧ ClsQ K ∧ ∃ b, PySem.W.kitOne K (.ref e.1) u = some b ∧ Q b S
def wIsGo (e : Err K) : List Value → W K Bool
  | [] => ret false
  | u :: us => bnd (wIsE e u) fun b => wIf b (ret true) (wIsGo e us)
def wIsEs (e : Err K) (us : List Value) : W K Bool := fun Q E S => ErrQ K e.1 ∧ ClsQ K ∧ wIsGo e us Q E S
theorem isGo_any {e : Err K} {Q : Bool → Store K → Prop} {E : Err K → Store K → Prop} : ∀ {us : List Value}, wIsGo e us Q E S → ∃ b, PySem.W.kitAny K (.ref e.1) us = some b ∧ Q b S
  | [], h => ⟨false, kita_nil, h⟩
  | u :: us, ⟨_, _, b, hb, h⟩ => by
    cases b with
    | true => exact ⟨true, kita_yes hb, wIf_t (b := true) h⟩
    | false =>
      obtain ⟨b, h1, h2⟩ := isGo_any (us := us) (wIf_f (b := true) h)
      exact ⟨b, kita_no hb h1, h2⟩
theorem atL_cls {Z : Pl} {H : Hp} : ∀ {us : List Value} {vs : List V}, AtL Z H (us.map (kCls (K := K))) vs → Paired ClsV vs us
  | [], _, h => by cases h; exact .nil
  | u :: us, _, ⟨v, r, e, h, t⟩ => by subst e; exact .cons h (atL_cls t)
theorem cb_isE {a : Addr} {k : Value} {d : Option Addr} : CalB K (rIsErr K a k d) (fun x : Err K × Value × Unit => [kErr a k d x.1, kCls x.2.1]) kB (fun x => wIsE x.1 x.2.1) := by
  intro S F H x vs Q Qp Ep wd h ⟨hq, hc, b, hb, hQ⟩ q
  obtain ⟨v, w, rfl, ⟨rfl, hk, dd, kvs, hd, _, hH, _⟩, hw⟩ := at2 h
  exact ⟨x.1.1, w, b, dd, kvs, rfl, hk, hd, hH, hq, hc, .inl ⟨_, hw, hb⟩, q b S H _ hQ (.refl wd) mk_bl⟩
theorem cb_isEs {a : Addr} {k : Value} {d : Option Addr} : CalB K (rIsErr K a k d) (fun x : Err K × List Value × Unit => [kErr a k d x.1, kX kCls x.2.1]) kB (fun x => wIsEs x.1 x.2.1) := by
  intro S F H x vs Q Qp Ep wd h ⟨hq, hc, hg⟩ q
  obtain ⟨v, w, rfl, ⟨rfl, hk, dd, kvs, hd, _, hH, _⟩, hw⟩ := at2 h
  obtain ⟨tp, cs, rfl, _, hT, l⟩ := hw
  obtain ⟨b, h1, h2⟩ := isGo_any hg
  exact ⟨x.1.1, .ref tp, b, dd, kvs, rfl, hk, hd, hH, hq, hc, .inr ⟨tp, cs, _, rfl, hT, atL_cls l, h1⟩, q b S H _ h2 (.refl wd) mk_bl⟩
theorem isE_of {C : Addr} {fs : List (Str × Dm K)} {u : Value} {b : Bool} (q : ErrQ K C) (c : ClsQ K) (h : PySem.W.kitOne K (.ref C) u = some b) : wIsE (C, fs) u = ret b := by
  funext Q E S
  refine propext ⟨fun ⟨_, _, b', hb, hQ⟩ => ?_, fun hQ => ⟨q, c, b, h, hQ⟩⟩
  have : b' = b := by
    have e : some b' = some b := hb.symm.trans h
    exact Option.some.inj e
  subst this; exact hQ
theorem isEs_of {C : Addr} {fs : List (Str × Dm K)} {us : List Value} (q : ErrQ K C) (c : ClsQ K) : wIsEs (C, fs) us = wIsGo (C, fs) us := by
  funext Q E S
  exact propext ⟨fun h => h.2.2, fun h => ⟨q, c, h⟩⟩
theorem isGo_nil {e : Err K} : wIsGo e [] = ret false := id rfl
theorem isGo_cons {e : Err K} {u : Value} {us : List Value} : wIsGo e (u :: us) = bnd (wIsE e u) fun b => wIf b (ret true) (wIsGo e us) := id rfl
theorem catch_y {C D : Addr} {fs : List (Str × Dm K)} {h n : Err K → W K α} (e : PySem.W.exmOne K (.ref C) (.ref D) = some true) : wCatch D h n (C, fs) = h (C, fs) := by
  funext Q E S
  refine propext ⟨fun ⟨b, hb, h1, _⟩ => ?_, fun hh => ⟨true, e, fun _ => hh, fun z => nomatch z⟩⟩
  have : b = true := Option.some.inj ((show some b = some true from hb.symm.trans e))
  exact h1 this
theorem catch_n {C D : Addr} {fs : List (Str × Dm K)} {h n : Err K → W K α} (e : PySem.W.exmOne K (.ref C) (.ref D) = some false) : wCatch D h n (C, fs) = n (C, fs) := by
  funext Q E S
  refine propext ⟨fun ⟨b, hb, _, h1⟩ => ?_, fun hh => ⟨false, e, fun z => (nomatch z), fun _ => hh⟩⟩
  have : b = false := Option.some.inj ((show some b = some false from hb.symm.trans e))
  exact h1 this
/-- a field of a caught error -/
theorem xf_of {β : Type} {C : Addr} {f : Str} {s : β → Dm K} {fs : List (Str × Dm K)} {x : β} {k : β → W K α} {Q : α → Store K → Prop} {E : Err K → Store K → Prop} (l : fs.lookup f = some (s x)) (h : k x Q E S) : (bnd (wXf (C := C) f s (C, fs)) k) Q E S := ⟨rfl, x, l, h⟩
end
end TL

set_option Elab.async false
set_option linter.all false
set_option maxRecDepth 100000
set_option maxHeartbeats 2000000
/-! PcY: comprehensions that let errors out. -/
namespace PC
open PySem PySem.Spec PyProof.Rows L2

section
variable {M : Model} {A : Around} {E : Value → Shared → Prop} {s : Shared}
end

section
variable {M : Model} {A : Around} {E : Value → Shared → Prop} {s : Shared} {Z : Obj → Prop} {B : Heap} {env : Env} {outer : List Env} {L C a : Addr}
end

section
variable {X : Cx} {σ : L2.St} {H : Hp} {s : Shared}
end
end PC

namespace TL
open PySem PySem.Spec PyProof.Rows L2 PC
section
variable {K : PySem.W.Frag} {ε : WX} {G : Gm K} {α β γ τ : Type}
end
end TL

set_option Elab.async false
set_option linter.all false
set_option maxRecDepth 100000
set_option maxHeartbeats 2000000
/-! PcZ: repr of a list of own objects. -/
namespace PC
open PySem PySem.Spec PyProof.Rows L2

section
variable {M : Model} {A : Around} {E : Value → Shared → Prop} {s : Shared} {K : PySem.W.Frag} {x C f : Addr} {ox : Obj} {od : Option Obj}
end

section
variable {H : Hp} {a : Addr}
end
section
variable {X : Cx} {k : Nat} {f C : Addr} {fd : FuncData} {p : Str} {sp : Sp}
/-- what the walk over the list asks of its surroundings -/
structure LoopAt (X : Cx) (A : Around) (base : Heap) (a : Addr) : Prop where
  fr : A.frames = some X.stack
  gd : GOkA X.K A base
  mod : Mod X.K X.mg base
  at_ : ∃ o, base.get? a = some o
  na : X.K.lookup a = none
  sub : ∀ b o, base.get? b = some o → X.base.get? b = some o ∨ b = a
end
section
variable {X : Cx} {k : Nat} {f C : Addr} {fd : FuncData} {p : Str} {sp : Sp} {pins : List (Addr × Obj)} {σ : L2.St} {H : Hp} {s : Shared} {a : Addr} {vs : List V}
end
end PC

namespace TL
open PySem PySem.Spec PyProof.Rows L2 PC
section
variable {K : PySem.W.Frag} {α : Type} {H : Hp} {a : Addr}
variable {S : Store K} {E : Err K → Store K → Prop}
variable {ε : WX} {G : Gm K} {β : Type}
end
end TL

set_option Elab.async false
set_option linter.all false
set_option maxRecDepth 100000
set_option maxHeartbeats 2000000
/-! PdA: == and != of the program's own objects with values of the built-in kinds. -/
namespace PC
open PySem PySem.Spec PyProof.Rows PySem.SeqAt L2
open AutoSeq1 (wpAny_loadPart')
section
variable {M : Model} {A : Around} {E : Value → Shared → Prop} {s : Shared} {K : PySem.W.Frag} {x C f : Addr} {ox : Obj} {od : Option Obj}
end
section
variable {K : PySem.W.Frag} {x C f dx : Addr}
end
section
variable {prog : Program} {w : World} {A : Around} {E : Value → Shared → Prop} {s : Shared} {K : PySem.W.Frag} {x C f : Addr} {ox : Obj} {od : Option Obj} {u tb : Value}
end

/-! ### the kinds -/
def BT : List String := ["NoneType", "bool", "int", "str", "list", "tuple", "dict"]
/-- a class that stands apart from the built-in kinds -/
structure AlT (K : PySem.W.Frag) (C : Addr) : Prop where
  sub : ∀ T ∈ BT, PySem.W.subIn K (.ref C) (.type T) = some false
  tc : PySem.W.typeIn K (.ref C) = some (.type "type")
  ic : PySem.W.isClsIn K C = true
theorem rev_no {K : PySem.W.Frag} {C : Addr} : ∀ T ∈ BT, PySem.W.subIn K (.type T) (.ref C) = some false := by
  intro T h
  simp only [BT, List.mem_cons, List.not_mem_nil, or_false] at h
  rcases h with rfl | rfl | rfl | rfl | rfl | rfl | rfl <;> rfl
theorem AlT.first {K : PySem.W.Frag} {C : Addr} {T : String} (h : T ∈ BT) : PySem.W.notFirst K C (.type T) = true := by
  unfold PySem.W.notFirst
  rw [rev_no T h]
  simp
theorem AlT.is {K : PySem.W.Frag} {C : Addr} {T : String} (t : AlT K C) (h : T ∈ BT) : PySem.W.kitOne K (.type T) (.ref C) = some false := by
  have e : (Value.type T == Value.ref C) = false := rfl
  have ic : (PySem.W.clsIn K C).isSome = true := t.ic
  unfold PySem.W.kitOne PySem.W.kitCls
  rw [if_neg (by rw [e]; decide)]
  dsimp only
  rw [ic, t.tc, if_pos (by simp)]
  exact rev_no T h
inductive TyA (K : PySem.W.Frag) (H : Hp) : V → String → Prop where
  | non : TyA K H .non "NoneType"
  | bl (b : Bool) : TyA K H (.bl b) "bool"
  | int (i : Int) : TyA K H (.int i) "int"
  | str (x : Str) : TyA K H (.str x) "str"
  | lst {a : Addr} {xs : List V} (e : Rd H a (.lst xs)) : TyA K H (.ref a) "list"
  | tup {a : Addr} {xs : List V} (e : SqT K H a xs) : TyA K H (.ref a) "tuple"
  | dct {a : Addr} {es : List (Key × V)} (e : H a = some (.dK es)) : TyA K H (.ref a) "dict"
section
variable {K : PySem.W.Frag} {H : Hp} {x : V} {T : String}
theorem TyA.mem (h : TyA K H x T) : T ∈ BT := by cases h <;> simp [BT]
end
section
variable {X : Cx} {pins : List (Addr × Obj)} {σ : L2.St} {H : Hp} {s : Shared} {x : V} {u : Value} {T : String} {a C dx : Addr} {fs : List (Str × V)}
end
section
variable {X : Cx} {k : Nat} {f C : Addr} {fd : FuncData} {ps : List Str} {sp : Sp}
end
end PC
namespace TL
open PySem PySem.Spec PyProof.Rows L2 PC
section
variable {K : PySem.W.Frag} {α β : Type}
/-- data of the built-in kinds -/
inductive AlD : Dm K → Prop where
  | py (d : PyData) : AlD (kPy d)
  | lst (ds : List (Dm K)) : AlD (dL ds)
end
end TL

set_option Elab.async false
set_option linter.all false
set_option maxRecDepth 100000
set_option maxHeartbeats 2000000
/-! PdB: a lambda without parameters handed to a def that calls it within a try suite. -/
namespace PC
open PySem PySem.Spec PyProof.Rows L2 LamX

abbrev LamTl := XK → Hp → VK → Prop
/-- the lambda at f, in slot i, is called: tl tells what its body does -/
def tCall (i : Nat) (f c' : Addr) (q : Str) (W : WX) (tl : LamTl) : TE := fun σ H Q => σ[i]? = some (some (.ref f)) ∧ H c' = some (CodeO c' q) ∧ tl (fun c d H => W c d σ H) H Q
section
variable {X : Cx} {pins : List (Addr × Obj)} {σ : L2.St} {H : Hp} {s : Shared}
theorem pe_actG {CXg : CXT} {Eg : XK} {Ng : List Str} {qg : Str} {sg : Scope} {g f c' : Addr} {cdg pm ctv : Value} {params : Arguments} {body : Expr} {scope : Scope} {k i : Nat} {a : Str} {pn : List (Addr × Obj)} {xe : Value → Shared → Prop} {W : WX} {tb : XK → TE} {p1 p2 : Pos}
    (I : Inv X pins σ H s) (L : LamS X.env.scope scope) (hf : s.heap.get? f = some (PySem.W.kla_obj "<lambda>" (X.env.qual ++ "<lambda>") params body scope (cloFrom X.env.cells scope.names []) pm c' ctv)) (nf : H f = none) (of : f ∉ frs X.stack)
    (hbind : bindArgs (PySem.W.kla_fn "<lambda>" (X.env.qual ++ "<lambda>") params body scope (cloFrom X.env.cells scope.names []) pm (.ref c') ctv) ⟨[], []⟩ = pure []) (tk : Takes ((cxOf CXg X.prog X.w X.K X.mg X.base Ng qg sg g cdg X.A X.stack s H Eg).tr pn xe) W)
    (hr : Room (k + 1) (X.A.deeper (envOfC qg sg s.heap.objs.size g cdg))) (hbody : ∀ (E : XK) (A : Around) (outer : List Env) (s : Shared) (H : Hp), GOkA X.K A X.base → Room k (A.deeper (lamEnv X scope s.heap.objs.size f c')) → PE (lamCx X A outer s H E scope f c') body (tb E))
    (hg : GOkA X.K X.A X.base) (hN : Ng[i]? = some a) (hv : Vis sg a) (hd : (a == ("__debug__" : Str)) = false) (hcd : (a == ("__classdict__" : Str)) = false) :
    PE ((cxOf CXg X.prog X.w X.K X.mg X.base Ng qg sg g cdg X.A X.stack s H Eg).tr pn xe) (.Call (.Name a p1) [] [] p2) (tCall i f c' (X.env.qual ++ "<lambda>") W (fun E => tb E σ)) := by
  refine ⟨fun pZ sZ σZ HZ Q IZ ⟨hs, hc, hq⟩ => ?_⟩
  refine wpAny_Call_Name_kw (thn ((pe_var (pos := p1) (i := i) hN hv hd hcd).run pZ sZ σZ HZ (fun v H1 => v = .ref f ∧ H1 = HZ) IZ ⟨.ref f, hs, rfl, rfl⟩) ?_)
  rintro u s1 ⟨v, H1, I1, r1, rfl, rfl⟩
  cases (show u = Value.ref f from r1)
  have at1 := I1.base.keep f _ hf nf of (fun z => nomatch (show f ∈ ([] : List Addr) from z))
  have un : Un (frs X.stack) [] H H1 s.heap s1.heap := I1.base
  obtain ⟨⟨oc, vs, t, e1, e2, e3⟩, _⟩ := I1.hok c' _ hc
  have rc : codeAny (model X.prog X.w) (X.A.deeper (envOfC qg sg s.heap.objs.size g cdg)) (.call (.ref f) ⟨[], []⟩) (CR (L2.CX X.prog X.w) (envOfC qg sg s.heap.objs.size g cdg :: X.stack) X.prog X.w H1 s1 Q (fun c d H => W c d σZ H)) s1 := by
    refine PySem.W.kla_callFunE hr.depth at1 rfl L.co L.gen rfl ⟨c', oc, vs, t, rfl, e1, e2, e3⟩ ?_
    rw [hbind]
    refine wpAny_pure (wpAny_newFunctionEnv (fun y hy => (L.own y hy).2) (fun y hy => absurd hy (by simp)) (fun h₁ hns hsb => ⟨I1.nolimit.fresh _ hsb, ?_⟩) L.kind)
    show codeAny _ _ (.expr body (lamEnv X scope s1.heap.objs.size f c')) _ _
    have J := lam_start2 (A := X.A.deeper (envOfC qg sg s.heap.objs.size g cdg)) (outer := envOfC qg sg s.heap.objs.size g cdg :: X.stack) (E := fun c d H => W c d σZ H) (f := f) (c' := c') (tk := s1.toks + ([] : List (Str × Value)).length) I L I1.env0 hr.hd un hns (fun b o e => hsb.extBut b o (Nat.ne_of_lt (Heap.lt_size e)) (Heap.get?_push_of_some _ e))
    refine PySem.W.kla_codeExpr (wpAny_mono ((hbody _ (X.A.deeper (envOfC qg sg s.heap.objs.size g cdg)) _ s1 H1 hg (hr.deeper _)).run [] _ _ H1 Q J hq) (fun v s' ⟨w', H', J', rv, q⟩ => ?_) fun e s' hq => hq)
    exact ⟨w', H', J'.os, J'.bare, J'.base, J'.hok, rv, q⟩
  refine PySem.W.callWith_F0 ⟨_, _, _, _, at1⟩ (wpAny_call (codeAny_mono rc fun r s' hq => ?_))
  match r, hq with
  | .error e, hq => exact tk e s' (XE.of_call I1 (fun _ _ _ h => h) hq)
  | .ok (.ret u), hq => exact I1.after hq
  | .ok .next, hq => exact hq.elim
  | .ok .brk, hq => exact hq.elim
  | .ok .cont, hq => exact hq.elim
/-- the table's codes, at H1 behind H: known before, or new -/
def TabN (q : Str) (ps : Array Value) (H H1 : Hp) : Prop := TriplesOk ps.toList ∧ ∀ (pos : Pos) (cv : Value), codeAmong pos ps.toList = some cv → ∃ c, cv = .ref c ∧ H1 c = some (CodeO c q) ∧ (H c = none ∨ H c = some (CodeO c q))
/-- the lambda's function object is made -/
theorem lam_new {c P : Addr} {q : Str} {params : Arguments} {body : Expr} {scope : Scope} {pos : Pos} {E Q : Value → Shared → Prop} {ps : Array Value} (I : Inv X pins σ H s) (TB : TabB X.base X.mg c P) (hcode : X.env.code = .ref c) (eq : X.env.qual ++ "<lambda>" = q)
    (hP : H P = some (.tbl ps)) (hT : TabN q ps H H) (hdef : defaultsOf params X.env = ([], [])) (hfree : ∀ y ∈ scope.names, y.2 = .free → ∃ c, X.env.cells.lookup y.1 = some c)
    (h : ∀ (f c' : Addr) (pm ctv : Value) (H1 : Hp) (s' : Shared) (ps1 : Array Value), Inv X pins σ H1 s' → H1 P = some (.tbl ps1) → TabN q ps1 H H1 → (∀ b o, b ≠ P → H b = some o → H1 b = some o) →
      s'.heap.get? f = some (PySem.W.kla_obj "<lambda>" q params body scope (cloFrom X.env.cells scope.names []) pm c' ctv) → H1 f = none → f ∉ frs X.stack → H1 c' = some (CodeO c' q) → (H c' = none ∨ H c' = some (CodeO c' q)) → Q (.ref f) s') :
    wpAny (model X.prog X.w) X.A (eval (.Lambda params body scope pos) X.env) Q E s := by
  subst eq
  have bP := TB.bm.keeps I.bk
  have gP : s.heap.get? P = some { cls := .none, data := .fields ps } := I.hok P _ hP
  have out : ∀ f, s.heap.objs.size ≤ f → f ∉ frs X.stack := fun f hf z => by
    rcases List.mem_cons.mp (I.stkSub _ z) with e | e
    · exact Nat.lt_irrefl _ (Nat.lt_of_lt_of_le (e ▸ I.lt) hf)
    · exact I.nofs hf e
  obtain ⟨ht, ha⟩ := hT
  refine PySem.W.kla_eval hdef ?_
  cases hc : codeAmong pos ps.toList with
  | some cv =>
    obtain ⟨c', rfl, hco, _⟩ := ha pos cv hc
    refine PySem.W.kla_makeFunctionHit (mg := X.mg) (c := c) (P := P) (ps := ps) (closure_ok hfree) I.ok.glob (I.mod.glob.keeps I.bk) hcode (TB.code.keeps I.bk) gP ht hc bP fun ctv h' tk hx hsz => ?_
    exact h h'.objs.size c' _ ctv H _ ps (I.kept fun b o e => Heap.get?_push_of_some _ (hx b o e)) hP ⟨ht, ha⟩ (fun _ _ _ e => e) (Heap.get?_push_size _ rfl) (I.hok.fresh hsz) (out _ hsz) hco (.inr hco)
  | none =>
    refine PySem.W.kla_makeFunction (mg := X.mg) (c := c) (P := P) (ps := ps) (closure_ok hfree) I.ok.glob (I.mod.glob.keeps I.bk) hcode (TB.code.keeps I.bk) gP ht hc TB.gP bP fun c' ctv h' tk hx hge hlt hrec htb => ?_
    obtain ⟨c2, oc, vs, t, e2, hoc, hd, hv⟩ := hrec
    cases e2
    have sz := Nat.le_trans hge (Nat.le_of_lt hlt)
    have nC : H c' = none := I.hok.fresh hge
    have nPC : P ≠ c' := ne_of_none hP nC
    let ps1 := ps ++ #[rawInt pos.line, rawInt pos.col, .ref c']
    have I1 := inv_table (t' := tk) (more := #[rawInt pos.line, rawInt pos.col, .ref c']) (h' := h'.push (PySem.W.kla_obj "<lambda>" (X.env.qual ++ "<lambda>") params body scope (cloFrom X.env.cells scope.names []) ((X.mg "__name__").getD .none) c' ctv)) I hP
      (fun b o hb e => Heap.get?_push_of_some _ (hx b o hb e)) (Heap.get?_push_of_some _ htb) hge ⟨oc, vs, t, Heap.get?_push_of_some _ hoc, hd, hv⟩
    have kp : ∀ b o, b ≠ P → H b = some o → upd (upd H P (.tbl ps1)) c' (CodeO c' (X.env.qual ++ "<lambda>")) b = some o := fun b o nb e => by
      rw [upd_ne (ne_of_none e nC), upd_ne nb]; exact e
    have el : ps1.toList = ps.toList ++ [rawInt pos.line, rawInt pos.col, .ref c'] := by simp [ps1]
    refine h h'.objs.size c' _ ctv _ _ ps1 I1 (by rw [upd_ne nPC, upd_same]) ⟨by rw [el]; exact PySem.TriplesOk_snoc _ _ _ _ ht, fun p' cv hcv => ?_⟩ kp (Heap.get?_push_size _ rfl) ?_ (out _ sz) upd_same (.inl nC)
    · rw [el] at hcv
      rcases among_app _ ht hcv with z | z
      · obtain ⟨c0, e1, e2, e3⟩ := ha p' cv z
        exact ⟨c0, e1, kp _ _ (fun w => by rw [w, hP] at e2; exact absurd e2 (by unfold CodeO; simp)) e2, e3⟩
      · exact ⟨c', z, upd_same, .inl nC⟩
    · rw [upd_ne (Nat.ne_of_gt hlt), upd_ne (Nat.ne_of_gt (Nat.lt_of_lt_of_le (Heap.lt_size gP) sz))]
      exact I.hok.fresh sz
end
/-- the def at g, that calls what it got: TT tells what it makes of it -/
def GivesT (P : Program) (w : World) (K : PySem.W.Frag) (mg : Str → Option Value) (base : Heap) (k : Nat) (g : Addr) (x : Str) (st : Stmt) (Ng : List Str) (a : Str) (TT : LamTl → Addr → Addr → Str → Hp → VK → Prop) : Prop :=
  ∀ (cdv : Value) (A : Around) (outer : List Env) (s : Shared) (H : Hp) (Q : VK) (f c' : Addr) (q : Str) (tl : LamTl), GOkA K A base → Room k (A.deeper (envOfC x (defScope st) s.heap.objs.size g cdv)) →
    (∀ (W : WX) (pn : List (Addr × Obj)) (xe : Value → Shared → Prop) (p1 p2 : Pos), Takes ((cxg P w K mg base Ng x st g cdv A outer s H E0).tr pn xe) W → PE ((cxg P w K mg base Ng x st g cdv A outer s H E0).tr pn xe) (.Call (.Name a p1) [] [] p2) (tCall 0 f c' q W tl)) →
    TT tl f c' q H Q → ∃ t, PSs (cxg P w K mg base Ng x st g cdv A outer s H E0) (defBody st) t ∧ t { nx := fun _ H' => Q .non H', rt := Q } (L2.start Ng [.ref f]) H
/-- x(lambda: body), the table of the maker's code object at P -/
def tLamC (P : Addr) (q : Str) (TT : LamTl → Addr → Addr → Str → Hp → VK → Prop) (t : XK → TE) : TE := fun σ H Q => ∃ ps, H P = some (.tbl ps) ∧ TabN q ps H H ∧
  ∀ (f c' : Addr) (H1 : Hp) (ps1 : Array Value), H1 P = some (.tbl ps1) → TabN q ps1 H H1 → (∀ b o, b ≠ P → H b = some o → H1 b = some o) → H1 c' = some (CodeO c' q) → (H c' = none ∨ H c' = some (CodeO c' q)) → TT (fun E => t E σ) f c' q H1 Q
theorem pe_lamT {X : Cx} {x a q : Str} {g c P : Addr} {k : Nat} {st : Stmt} {fd : FuncData} {Ng : List Str} {TT : LamTl → Addr → Addr → Str → Hp → VK → Prop} {params : Arguments} {body : Expr} {scope : Scope} {t : XK → TE} {p lpos pos : Pos}
    (G : GivesT X.prog X.w X.K X.mg X.base (k + 1) g x st Ng a TT) (F : Fun X.K x x st g fd) (S : FnScope Ng [a] (defScope st)) (hN : Ng[0]? = some a) (hva : Vis (defScope st) a) (hb : Binds X.K fd [a] []) (hgl : Gl X x) (hm : X.mg x = some (.ref g)) (hg : GOk X) (hr : Room (k + 2) X.A)
    (TB : TabB X.base X.mg c P) (hcode : X.env.code = .ref c) (eq : X.env.qual ++ "<lambda>" = q) (L : LamS X.env.scope scope) (hdef : defaultsOf params X.env = ([], []))
    (hbind : ∀ (q : Str) (cl : List (Str × Addr)) (pm cv ctv : Value), bindArgs (PySem.W.kla_fn "<lambda>" q params body scope cl pm cv ctv) ⟨[], []⟩ = pure [])
    (hbody : ∀ (f c' : Addr) (E : XK) (A : Around) (outer : List Env) (s : Shared) (H : Hp), GOkA X.K A X.base → Room k (A.deeper (lamEnv X scope s.heap.objs.size f c')) → PE (lamCx X A outer s H E scope f c') body (t E))
    (hdb : (x == ("__debug__" : Str)) = false := by decide) (hd : (a == ("__debug__" : Str)) = false := by decide) (hcd : (a == ("__classdict__" : Str)) = false := by decide) :
    PE X (.Call (.Name x p) [.Lambda params body scope lpos] [] pos) (tLamC P q TT t) := by
  obtain ⟨oc, od, kV, doc, pm, an, cdv, ct, osl, rfl, lk, hcd'⟩ := F.ex
  refine ⟨fun pins s σ H Q I ⟨ps, hP, hT, h⟩ => wpAny_Call_Name_kw (ld_glob I hgl hm ?_ hdb)⟩
  refine PySem.W.callWith_K (h₀ := X.base) I.ok.mod.kin F.kp ?_ (by rfl) (by rfl)
  show wpAny _ _ (spliced ((false, eval (.Lambda params body scope lpos) X.env) :: backTo pos (starEach [] X.env))) _ _ s
  refine Calls.spliced_cons (lam_new I TB hcode eq hP hT hdef (L.has I.ok) fun f c' pm' ctv H1 s' ps1 I1 h1 h2 h3 hf nf of hc ho => Calls.spliced_nil ⟨I1.kIn, ?_⟩)
  refine wpAny_call (codeAny_mono (R := CR (L2.CX X.prog X.w) X.stack X.prog X.w H1 s' Q E0) ?_ fun r s2 hq => ?_)
  · refine run_ofS (N := Ng) (ps := [a]) (us := [.ref f]) (vs := [.ref f]) lk hcd' S hr I1.env0 (hb s' [.ref f] I1.kIn rfl) (.cons rfl .nil) rfl fun hr' => ?_
    subst eq
    exact G cdv X.A X.stack s' H1 Q f c' _ (fun E => t E σ) hg hr' (fun W pn xe p1 p2 tk => pe_actG (i := 0) I1 L hf nf of (hbind _ _ _ _ _) tk hr' (hbody f c') hg hN hva hd hcd) (h f c' H1 ps1 h1 h2 h3 hc ho)
  · match r, hq with
    | .error e, hq => exact passN pins σ H1 s' e s2 I1 hq
    | .ok (.ret u), hq => exact I1.after hq
    | .ok .next, hq => exact hq.elim
    | .ok .brk, hq => exact hq.elim
    | .ok .cont, hq => exact hq.elim
end PC
namespace TL
open PySem PySem.Spec PyProof.Rows L2 PC LamX
section
variable {K : PySem.W.Frag} {α ρ : Type} {ε : WX} {G : Gm K}
/-- what a thing of the store is -/
theorem Wd.kind {S : Store K} {F : Pl} {H : Hp} {c : Addr} {q : Str} (w : Wd S F H) (h : H c = none ∨ H c = some (CodeO c q)) : ¬ Zd S F c := fun z => by
  have lst : ∀ {o : HO}, H c = some o → (∀ φ, o ≠ .ext φ) → False := fun {o} e n => by
    rcases h with h | h
    · rw [h] at e; cases e
    · rw [h] at e; cases e; exact n _ rfl
  rcases z with z | z
  · cases e : S c with
    | none => exact z e
    | some x =>
      have k := w.cell c x e
      cases x with
      | pot => obtain ⟨_, _, e, _⟩ := k; exact lst e fun _ z => nomatch z
      | lst ds => obtain ⟨_, e, _⟩ := k; exact lst e fun _ z => nomatch z
      | dic es => obtain ⟨_, e, _⟩ := k; exact lst e fun _ z => nomatch z
      | dct es => obtain ⟨_, e, _⟩ := k; exact lst e fun _ z => nomatch z
      | tab q => obtain ⟨_, e, _⟩ := k; exact lst e fun _ z => nomatch z
      | ins C fs => obtain ⟨_, _, e, _⟩ := k; exact lst e fun _ z => nomatch z
  · rcases w.foc c z with ⟨_, e⟩ | ⟨_, e⟩ | ⟨_, e⟩ <;> exact lst e fun _ z => nomatch z
/-- the lambda's place and what its reading leans on -/
def kLam (f c' : Addr) (q : Str) (Pc : Pl → Hp → Prop) (st : ∀ Z H Z' H', Stp Z H Z' H' → Pc Z H → Pc Z' H') : Unit → Dm K := fun _ => ⟨fun Z H v => v = .ref f ∧ ¬ Z c' ∧ H c' = some (CodeO c' q) ∧ Pc Z H,
  fun r ⟨e, n, h, p⟩ => ⟨e, nz_stp r n (by rw [h]; exact fun z => nomatch z), r.keep _ _ n h, st _ _ _ _ r p⟩⟩
/-- tl follows the wish m wherever Pc holds -/
def LamSim (Pc : Pl → Hp → Prop) (r : α → Dm K) (m : W K α) (tl : LamTl) : Prop := ∀ (E : XK) S F H (Q : VK) (Qp : α → Store K → Prop) (Ep : Err K → Store K → Prop), Wd S F H → Pc (Zd S F) H → m Qp Ep S →
  (∀ x S' H' v, Qp x S' → Nxt S F H S' H' → (r x).at_ (Zd S' F) H' v → Q v H') → (∀ e S' H' c d, Ep e S' → Nxt S F H S' H' → ErrAt e (Zd S' F) H' c d → E c d H') → tl E H Q
theorem sim_tcall {i : Nat} {f c' : Addr} {q : Str} {Pc : Pl → Hp → Prop} {st : ∀ Z H Z' H', Stp Z H Z' H' → Pc Z H → Pc Z' H'} {x : Unit} {r : α → Dm K} {m : W K α} {tl : LamTl} (h : LamSim Pc r m tl) (hx : G[i]? = some (some (kLam f c' q Pc st x))) :
    Sim ε G (tCall i f c' q ε tl) r m := by
  intro S F σ H Q Qp Ep w s hm hQ hE
  obtain ⟨v, e, rfl, n, hc, hp⟩ := s.slot i _ hx
  exact ⟨e, hc, h _ S F H Q Qp Ep w hp hm hQ fun e S' H' c d he r' ha => hE e S' H' c d he r' ha⟩
/-- x(lambda: ..): the table at P is there -/
def wLam (P : Addr) (q : Str) (m : W K α) : W K α := fun Q E S => S P = some (.tab q) ∧ m Q (fun e S' => False) S
end
end TL

set_option Elab.async false
set_option linter.all false
set_option maxRecDepth 100000
set_option maxHeartbeats 2000000
/-! PdC: the end of a law whose defs make lambdas: the tables of their code objects are known of from the start. -/
namespace PC
open PySem PySem.Spec PyProof.Rows L2 LamX
section
variable {P : Program} {w : World} {K : PySem.W.Frag} {mg : Str → Option Value} {base : Heap}
/-- a def whose code object is known -/
theorem FnG.okXC {x qual : Str} {st : Stmt} {f : Addr} {fd : FuncData} {N ps : List Str} {k : Nat} {sp : Sp} {cv : Value}
    (F : Fun K x qual st f fd) (hcv : fd.code = cv) (S : FnScope N ps (defScope st)) (len : ∀ vs H Q E, sp vs H Q E → vs.length = ps.length)
    (body : ∀ (A : Around) (outer : List Env) (s : Shared) (H : Hp) (vs : List V) (Q : VK) (E : XK), GOkA K A base → Room k (A.deeper (envOfC qual (defScope st) s.heap.objs.size f cv)) → sp vs H Q E →
      ∃ t, PSs (cxg P w K mg base N qual st f cv A outer s H E) (defBody st) t ∧ t { nx := fun _ H' => Q .non H', rt := Q } (start N vs) H) :
    FnG P w K mg base (k + 1) f fd ps sp := by
  obtain ⟨oc, od, kV, doc, pm, an, cdv, ct, osl, rfl, lk, hcd⟩ := F.ex
  obtain rfl : cdv = cv := hcv
  refine ⟨len, fun A outer s H args us vs Q E hg hr e0 hb rv hsp => ?_⟩
  exact run_ofS (N := N) (ps := ps) (us := us) (vs := vs) lk hcd S hr e0 hb rv (len _ _ _ _ hsp) fun hr' => body A outer s H vs Q E hg hr' hsp
theorem GivesT.mono {j k : Nat} {g : Addr} {x : Str} {st : Stmt} {Ng : List Str} {a : Str} {TT : LamTl → Addr → Addr → Str → Hp → VK → Prop} (G : GivesT P w K mg base j g x st Ng a TT) (h : j ≤ k) : GivesT P w K mg base k g x st Ng a TT :=
  fun cdv A outer s H Q f c' q tl hg hr => G cdv A outer s H Q f c' q tl hg (hr.mono h)
end
section
variable {P : Program} {w : World} {K : PySem.W.Frag} {mg mb : Str → Option Value} {k : Nat} {fa a : Addr} {fd : FuncData}
  {x : Str} {sp : Sp} {s₁ : Shared} {vs : List Value} {ns : List Int} {cs : List (Addr × Addr)}
theorem lawGT (KX : K.In s₁.heap) (k1 : K.lookup sysModules = none) (ha1 : a ≠ sysModules) (hs : ∃ o es ep, s₁.heap.get? sysModules = some o ∧ o.data = .dict es ep)
    (hns : s₁.heap.Ns mainGlobals mg) (hb : s₁.heap.Ns builtinsNs mb) (hbb : ∀ x : Str, x ≠ "__name__" → mb x = bootBuiltins x) (hlim : s₁.heap.NoLimit) (hg : s₁.gens = #[])
    (C : ∀ p ∈ cs, PySem.W.CodeHd s₁.heap p.1 p.2 ∧ s₁.heap.get? p.2 = some (PySem.W.tabObj #[])) (nT : ∀ p ∈ cs, K.lookup p.2 = none)
    (hbm : ∃ (bm : Addr) (ob : Obj), mg "__builtins__" = some (.ref bm) ∧ bm ≠ builtinsNs ∧ s₁.heap.get? bm = some ob ∧ ob.cls = .type "module" ∧ ob.dict = some builtinsNs ∧ ob.data = .plain)
    (ha : s₁.heap.get? a = some { cls := .type "list", data := .seq vs.toArray }) (hi : IntsAre vs ns) (hl : ns.length ≤ sizeLine) (hr : Room k callerA)
    (F : ∀ base : Heap, K.In base → base.Ns mainGlobals mg → (∀ p ∈ cs, TabB base mg p.1 p.2) → FnG P w K mg base k fa fd [x] sp)
    (hbind : ∀ (s : Shared) (u : Value), BindsTo s fd ⟨[u], []⟩ [(x, u)])
    (hsp : ∀ H : Hp, One H → (∀ p ∈ cs, H p.2 = some (.tbl #[])) → SqL K H a (ns.map V.int) → sp [.ref a] H (fun v _ => v = .bl true) E0) :
    codeAny (model P w) callerA (.call (.ref fa) ⟨[.ref a], []⟩)
      (fun r s' => r = .ok (.ret (.bool true)) ∧ OldK s₁.heap s'.heap ∧ s'.os = s₁.os ∧ AllBare s'.gens) s₁ := by
  obtain ⟨om, mes, mep, em, dm⟩ := hs
  obtain ⟨H0, R⟩ := root_of (P := P) (w := w) KX k1 ha1 ⟨om, em⟩ ha hi hl
  have isT : ∀ b, b ∈ cs.map (·.2) → s₁.heap.get? b = some (PySem.W.tabObj #[]) := fun b hb => by
    obtain ⟨p, hp, rfl⟩ := List.mem_map.mp hb
    exact (C p hp).2
  have noT : ∀ {b : Addr} {o : Obj}, s₁.heap.get? b = some o → o.data ≠ .fields #[] → b ∉ cs.map (·.2) := fun {b o} e n z => by
    rw [isT b z] at e
    cases e
    exact n rfl
  have aT : a ∉ cs.map (·.2) := noT ha (fun z => nomatch z)
  have mT : sysModules ∉ cs.map (·.2) := noT em (fun z => by rw [dm] at z; cases z)
  obtain ⟨H, eH⟩ : ∃ H : Hp, H = fun b => if b ∈ cs.map (·.2) then some (.tbl #[]) else H0 b := ⟨_, rfl⟩
  have inT : ∀ b, b ∈ cs.map (·.2) → H b = some (.tbl #[]) := fun b h => by rw [eH]; exact if_pos h
  have ouT : ∀ b, b ∉ cs.map (·.2) → H b = H0 b := fun b h => by rw [eH]; exact if_neg h
  have gone : ∀ {b : Addr} {o : Obj}, s₁.heap.get? b = some o → b ∉ cs.map (·.2) → b ≠ sysModules →
      (b = a → K.lookup a = some o ∨ ∃ es ep, o.data = .dict es ep) → H b = none := by
    intro b o e nb hs h
    rw [ouT b nb]
    cases q : H0 b with
    | none => rfl
    | some u =>
      rcases R.two b (by rw [q]; simp) with z | ⟨eb, kn⟩
      · exact absurd z hs
      rcases h eb with z | ⟨es, ep, z⟩
      · rw [kn] at z
        cases z
      · subst eb
        rw [ha] at e
        cases e
        cases z
  have nsK : ∀ {b : Addr} {m : Str → Option Value}, b ≠ sysModules → s₁.heap.Ns b m → (hidT s₁.heap H).Ns b m := by
    rintro b m hs ⟨o, es, ep, e, d, r⟩
    exact ⟨o, es, ep, hidT_get e (gone e (noT e (fun z => by rw [d] at z; cases z)) hs fun _ => .inr ⟨es, ep, d⟩), d, r⟩
  have kb : K.In (hidT s₁.heap H) := fun b o e =>
    hidT_get (KX b o e) (gone (KX b o e) (fun z => by
      obtain ⟨p, hp, rfl⟩ := List.mem_map.mp z
      rw [nT p hp] at e; cases e) (fun z => by rw [z, k1] at e; cases e) fun q => .inl (q ▸ e))
  obtain ⟨mc, l1, l2⟩ := hlim
  have M : Mod K mg (hidT s₁.heap H) :=
    ⟨kb, nsK (by decide) hns, ⟨mb, nsK (by decide) hb, hbb⟩, ⟨mc, nsK (by decide) l1, l2⟩⟩
  have nofr : ∀ b ∈ frs ([] : List Env), H b = none := by
    intro b hb
    cases (show b ∈ ([] : List Addr) from hb)
  have one : One H := by
    obtain ⟨o, b, e⟩ := R.one
    exact ⟨o, b, (ouT _ mT).trans e⟩
  have list : SqL K H a (ns.map V.int) := by
    rcases R.list with (e | ⟨o, e⟩) | e
    · exact .inl (.inl ((ouT a aT).trans e))
    · exact .inl (.inr ⟨o, (ouT a aT).trans e⟩)
    · exact .inr e
  have hok : HOk P w H s₁.heap := fun b u e => by
    by_cases hb : b ∈ cs.map (·.2)
    · rw [inT b hb] at e
      cases e
      exact isT b hb
    · rw [ouT b hb] at e
      rcases R.only b with z | ⟨o, u', z⟩
      · rw [z] at e; cases e
      · refine (R.hok b u e).stay (fun _ _ _ q => q) (fun d q => ?_) fun d xs q => ?_
        · rcases R.only d with z | ⟨o, u', z⟩
          · rw [z] at q; cases q
          · rw [z] at q; cases q
        · rcases R.only d with z | ⟨o, u', z⟩
          · rw [z] at q; cases q
          · rw [z] at q; cases q
  have e0 : Env0 P w K mg (hidT s₁.heap H) callerA [] s₁ H :=
    ⟨rfl, M, fun b o e => of_hidT e, Nat.le_of_eq (hidT_size _ _), trivial, nofr, hok, .of_eq hg⟩
  have notA : ∀ {b : Addr} {o : Obj}, s₁.heap.get? b = some o → (∀ vs n, o.data ≠ .seq vs n) → b ≠ a := fun {b o} e h z => by
    rw [z, ha] at e; cases e; exact h _ _ rfl
  have TB : ∀ p ∈ cs, TabB (hidT s₁.heap H) mg p.1 p.2 := fun p hp => by
    obtain ⟨hC, hT⟩ := C p hp
    refine ⟨?_, ?_, fun z => ?_⟩
    · obtain ⟨o, us, file, tf, flags, tg, inF, text, tt, e1, r1, r2, r3, r4, r5, r6, r7, r8, hne⟩ := hC
      refine ⟨o, us, file, tf, flags, tg, inF, text, tt, hidT_get e1 (gone e1 (noT e1 fun z => ?_) (fun z => ?_) fun z => absurd z (notA e1 fun vs n z => ?_)), r1, r2, r3, r4, r5, r6, r7, r8, hne⟩
      · rw [r2] at z; cases z; simp at r3
      · rw [z, em] at e1; cases e1; rw [r2] at dm; cases dm
      · rw [r2] at z; cases z
    · obtain ⟨bm, ob, b1, b2, b3, b4, b5, b6⟩ := hbm
      have nG : bm ≠ mainGlobals := fun q => by
        obtain ⟨o, es, ep, e, hd, _⟩ := hns
        rw [q, e] at b3; cases b3; rw [hd] at b6; cases b6
      have nP : bm ≠ p.2 := fun q => by rw [q, hT] at b3; cases b3; cases b6
      refine ⟨bm, ob, b1, b2, nG, nP, hidT_get b3 (gone b3 (noT b3 fun z => ?_) (fun z => ?_) fun z => absurd z (notA b3 fun vs n z => ?_)), b4, b5, b6⟩
      · rw [b6] at z; cases z
      · rw [z, em] at b3; cases b3; rw [b6] at dm; cases dm
      · rw [b6] at z; cases z
    · obtain ⟨o, es, ep, e, hd, _⟩ := hns
      rw [z, hT] at e; cases e; cases hd
  refine codeAny_mono ((F _ kb (nsK (by decide) hns) TB).run callerA [] s₁ H ⟨[.ref a], []⟩ [.ref a] [.ref a] _ _ (.nil rfl) hr e0
    (hbind s₁ (.ref a)) (.cons rfl .nil) (hsp H one (fun p hp => inT _ (List.mem_map.mpr ⟨p, hp, rfl⟩)) list)) fun r s' h => ?_
  match r, h with
  | .error e, h =>
    obtain ⟨_, _, _, _, _, _, _, _, _, _, _, _, z⟩ := h
    exact z.elim
  | .ok .next, h => exact h.elim
  | .ok .brk, h => exact h.elim
  | .ok .cont, h => exact h.elim
  | .ok (.ret u), h =>
    obtain ⟨v, H', os, bare, un, hok', r', q⟩ := h
    obtain rfl : v = .bl true := q
    obtain rfl : u = Value.bool true := r'
    have key : ∀ b o, b ∉ cs.map (·.2) → s₁.heap.get? b = some o → s'.heap.get? b = some o := fun b o nb e => by
      rcases R.only b with z | ⟨ob, xs, z⟩
      · exact un.keep b o e ((ouT b nb).trans z) (fun hb => by cases (show b ∈ ([] : List Addr) from hb)) (by simp)
      · have z1 := (ouT b nb).trans z
        obtain ⟨e1, _⟩ := hok b _ z1
        obtain ⟨e2, _⟩ := hok' b _ (un.frzs b ob _ z1)
        rw [e] at e1
        cases e1
        exact e2
    have grown : ∀ b, b ∈ cs.map (·.2) → ∃ more : Array Value, s'.heap.get? b = some { cls := .none, data := .fields more } := fun b hb => by
      obtain ⟨more, z⟩ := un.tbls b #[] (inT b hb)
      exact ⟨_, hok' b _ z⟩
    refine ⟨rfl, ⟨fun b o e => ?_, fun b o e => ?_⟩, os, bare⟩
    · by_cases hb : b ∈ cs.map (·.2)
      · obtain ⟨more, hm⟩ := grown b hb
        obtain ⟨p, hp, rfl⟩ := List.mem_map.mp hb
        rw [(C p hp).2] at e
        cases e
        exact .inr (.inl ⟨((C p hp).1.tab (C p hp).2).isCodeTable, rfl, #[], more, rfl, by rw [Array.empty_append]; exact hm⟩)
      · exact .inl (key b o hb e)
    · by_cases hb : b ∈ cs.map (·.2)
      · obtain ⟨more, hm⟩ := grown b hb
        exact ⟨_, hm⟩
      · exact ⟨o, key b o hb e⟩
end
theorem walkGT {l : PySem.W.OpenLaw} {n k : Nat} {q : Program} {loose : List Str} {XP : (Str → Option Value) → Heap → Prop}
    {YP : World → Heap → Prop} {d : DefRec} {K : Params → PySem.W.Frag} {sp : World → List (Addr × Addr) → Sp} {x : Str}
    (hn : l.most = some n) (hn2 : n ≤ sizeLine) (hdf : d.params.defaults = []) (hr : Room k callerA)
    (hY : ∀ (w : World) (h : Heap), YP w h → (K w.params).In h)
    (hK : ∀ w : World, (K w.params).lookup sysModules = none) (him : importsNone q = true)
    (F : ∀ (w : World) (mg : Str → Option Value) (fa : Addr) (h : Heap), (K w.params).In h → h.Ns mainGlobals mg →
      (∀ (y : Str) (c P : Addr), ((recsOf q).find? (fun e => e.name == y)).isSome = true → PySem.W.tabIn (K w.params) y = some (c, P) → PySem.W.CodeHd h c P ∧ h.get? P = some (PySem.W.tabObj #[])) →
      mg d.name = some (.ref fa) → ∃ (fd : FuncData) (cs : List (Addr × Addr)), (∀ p ∈ cs, PySem.W.CodeHd h p.1 p.2 ∧ h.get? p.2 = some (PySem.W.tabObj #[])) ∧ (∀ p ∈ cs, (K w.params).lookup p.2 = none) ∧ (∀ (s : Shared) (u : Value), BindsTo s fd ⟨[u], []⟩ [(x, u)]) ∧
        ∀ base : Heap, (K w.params).In base → base.Ns mainGlobals mg → (∀ p ∈ cs, TabB base mg p.1 p.2) → FnG l.prog w (K w.params) mg base k fa fd [x] (sp w cs))
    (hsp : ∀ (w : World) (cs : List (Addr × Addr)) (H : Hp) (a : Addr) (ns : List Int), ns.length ≤ n → (∀ z ∈ ns, Builtin.Int.intBits z ≤ 1048576) →
      One H → (∀ p ∈ cs, H p.2 = some (.tbl #[])) → SqL (K w.params) H a (ns.map V.int) → sp w cs [.ref a] H (fun v _ => v = .bl true) E0) :
    PySem.W.WalkO q loose XP YP l.row.toRowW d [] (fun f vs => PySem.call f vs) := by
  intro w s₀ s₁ mg mb G Y fa o pm cd doc dV kV ho hd hcd hD hmg hg args vals as hpre hlay hrd hwl hlo
  obtain rfl : dV = .none := PySem.W.Dflts.none hD hdf
  obtain rfl : kV = .none := PySem.W.Dflts.noKw hD
  obtain ⟨a, vs, ns, rfl, rfl, hobj, hints, hlen⟩ := Att.script_of hn hpre hwl
  obtain ⟨fd, cs, hC, nT, hb, hF⟩ := F w mg fa _ (hY w _ Y) G.T.g (fun y c P h1 h2 => by
    cases h : (recsOf q).find? (fun e => e.name == y) with
    | none => rw [h] at h1; cases h1
    | some d => exact PySem.W.tab_of G.T (hY w _ Y) h h2) hmg
  have key := lawGT (hY w _ Y) (hK w) (fun z => by have := hlo a (script_at hrd); rw [z] at this; cases this)
    (let ⟨_, ⟨o, es, ep, e, d, _⟩, _⟩ := (G.T.seer him).mods; ⟨o, es, ep, e, d⟩) G.T.g G.T.b G.T.builtins G.T.nolimit hg hC nT G.T.bmain hobj hints
    (Nat.le_trans hlen hn2) hr hF hb fun H h1 h2 hS => hsp w cs H a ns hlen (Att.script_bits hlay) h1 h2 hS
  refine PySem.W.enter_call (codeAny_mono key fun r s' hq => ?_)
  obtain ⟨rfl, h2, h3, h4⟩ := hq
  exact ⟨.inl ⟨.bool true, .bool true, [], rfl, fun _ => rfl, .bool true, Att.post_true l _,
    fun _ => ⟨List.Pairwise.nil, fun _ hm => (nomatch hm)⟩⟩, h2, h3, h4⟩
end PC
namespace TL
open PySem PySem.Spec PyProof.Rows L2 PC LamX
section
variable {P : Program} {w : World} {K : PySem.W.Frag} {mg : Str → Option Value} {base : Heap} {α τ : Type}
theorem okLC {x qual : Str} {st : Stmt} {f : Addr} {fd : FuncData} {N ps : List Str} {k : Nat} {δ : τ → List (Dm K)} {r : α → Dm K} {wf : τ → W K α} {cv : Value}
    (F : Fun K x qual st f fd) (hcv : fd.code = cv) (S : FnScope N ps (defScope st)) (hl : ∀ x, (δ x).length = ps.length) (d : Option α) (hd : ∀ y, d = some y → r y = dPy .none)
    (body : ∀ (A : Around) (outer : List Env) (s : Shared) (H : Hp) (E : XK), GOkA K A base → Room k (A.deeper (envOfC qual (defScope st) s.heap.objs.size f cv)) →
      ∃ t, PSs (cxg P w K mg base N qual st f cv A outer s H E) (defBody st) t ∧ ∃ m : τ → W K (Flow Unit α),
        (∀ x, SimS (fun c d _ H => E c d H) none (envOf (δ x) N.length) [t] (fun _ : Unit => List.replicate N.length none) r (m x)) ∧ ∀ x Q E S, wf x Q E S → outW (m x) d Q E S) :
    FnG P w K mg base (k + 1) f fd ps (lift K δ r wf) := by
  refine FnG.okXC F hcv S (fun vs H Q E h => ?_) (fun A outer s H vs Q E hg hr h => ?_)
  · obtain ⟨S0, F0, x, Qp, Ep, wd, ha, _⟩ := h
    rw [ha.length, hl]
  · obtain ⟨t, ht, m, hs, hw⟩ := body A outer s H E hg hr
    obtain ⟨S0, F0, x, Qp, Ep, wd, ha, hf, hQ, hE⟩ := h
    have q := hw x Qp Ep S0 hf
    refine ⟨t, ht, hs x S0 F0 H S0 H _ { nx := fun _ H' => Q .non H', rt := Q } _ Ep ⟨.refl wd, sat_start ha⟩ q (fun _ S' H' σ' z c' => ?_) (fun _ _ _ _ z _ => z.elim) (fun y S' H' v z r' hv => hQ y S' H' v z r' hv)
      (fun e S' H' c dd σ' he r' _ hk => hE e S' H' c dd he r' hk)⟩
    cases d with
    | none => exact z.elim
    | some y => exact hQ y S' H' .non z c'.nx (by rw [hd y rfl]; exact mk_non)
end
/-- the law called, the tables at P (their code objects' lambdas are named q) empty -/
def sp_topT (K : PySem.W.Frag) (cs : List (Addr × Addr)) : Sp := fun vs H Q E => ∃ a, ∃ ns : List Int, vs = [.ref a] ∧ One H ∧ (∀ p ∈ cs, H p.2 = some (.tbl #[])) ∧ SqL K H a (ns.map V.int) ∧ ns.length ≤ 63 ∧ ∀ H', Q (.bl true) H'
def tabsS {K : PySem.W.Frag} : List (Addr × Str) → Store K
  | [] => fun _ => none
  | p :: r => (tabsS r).set p.1 (.tab p.2)
theorem tabsS_in {K : PySem.W.Frag} : ∀ {ts : List (Addr × Str)} {b : Addr} {c : Cell K}, tabsS ts b = some c → ∃ q, c = .tab q ∧ b ∈ ts.map (·.1)
  | [], _, _, h => by cases h
  | p :: r, b, c, h => by
    by_cases z : b = p.1
    · have h : (tabsS r).set p.1 (.tab p.2) b = some c := h
      rw [z, set_same] at h
      cases h
      exact ⟨_, rfl, by simp [z]⟩
    · have h : (tabsS r).set p.1 (.tab p.2) b = some c := h
      rw [set_ne z] at h
      obtain ⟨q, e, m⟩ := tabsS_in h
      exact ⟨q, e, by simp [m]⟩
theorem tabsS_at {K : PySem.W.Frag} : ∀ {ts : List (Addr × Str)} {p : Addr × Str}, (ts.map (·.1)).Nodup → p ∈ ts → tabsS (K := K) ts p.1 = some (.tab p.2)
  | x :: r, p, n, h => by
    rw [List.map_cons, List.nodup_cons] at n
    rcases List.mem_cons.mp h with rfl | h
    · exact set_same
    · have z : p.1 ≠ x.1 := fun e => n.1 (e ▸ List.mem_map.mpr ⟨p, h, rfl⟩)
      exact (set_ne z).trans (tabsS_at n.2 h)
theorem law_inT {K : PySem.W.Frag} {w : List Int × Unit → W K Bool} {vs : List V} {H : Hp} {Q : VK} {E : XK} {cs : List (Addr × Addr)} {ts : List (Addr × Str)} (hts : ts.map (·.1) = cs.map (·.2)) (h : sp_topT K cs vs H Q E)
    (hw : ∀ ns : List Int, ns.length ≤ 63 → w (ns, ()) (fun b _ => b = true) (fun _ _ => False) (tabsS ts)) : lift K (fun x : List Int × Unit => [kSc x.1]) kB w vs H Q E := by
  obtain ⟨a, ns, rfl, o1, hT, hS, hl, q⟩ := h
  have isT : ∀ {b : Addr} {c : Cell K}, tabsS ts b = some c → (∃ q, c = .tab q) ∧ H b = some (.tbl #[]) := fun {b c} e => by
    obtain ⟨q, e1, m⟩ := tabsS_in e
    rw [hts] at m
    obtain ⟨p, hp, rfl⟩ := List.mem_map.mp m
    exact ⟨⟨q, e1⟩, hT p hp⟩
  refine ⟨tabsS ts, fun _ => False, (ns, ()), _, _, ⟨o1, (fun b c e => ?_), (fun _ z => False.elim z), (fun _ z => False.elim z)⟩, ⟨_, _, rfl, ⟨a, rfl, ?_, hS⟩, rfl⟩, hw ns hl, fun y S' H' v hy _ hv => ?_, fun _ _ _ _ _ z => z.elim⟩
  · obtain ⟨⟨q, rfl⟩, e2⟩ := isT e
    exact ⟨#[], e2, trivial, fun pos cv hc => by
      have z : codeAmong pos [] = some cv := hc
      simp [codeAmong] at z⟩
  · by_cases z : tabsS (K := K) ts a = none
    · exact .inl fun w => w.elim (fun w => w z) id
    · cases e : tabsS (K := K) ts a with
      | none => exact absurd e z
      | some c =>
        have := (isT e).2
        rcases hS with (h | ⟨o, h⟩) | h
        · rw [this] at h; cases h
        · rw [this] at h; cases h
        · exact .inr (.inr h)
  · rw [at_bl hv, hy]
    exact q H'
end TL
namespace TL
open PySem PySem.Spec PyProof.Rows L2 PC
/-- {k: v}, two constants, as data -/
theorem sim_disp1P {K : PySem.W.Frag} {ε : WX} {G : Gm K} {k : Key} {v : V} {d : PyData} (hd : ∀ Z H, DatP K Z H d v) : Sim ε G (tDisp [(tC (kV k), tC v)]) kPy (ret (PyData.dict [(keyD k, d)])) := by
  intro S F σ H Q Qp Ep w s hm hQ hE a ha
  refine ⟨upd_same, [(k, v)], rfl, by simp, ?_⟩
  rw [upd_upd, show mergeK [] [(k, v)] = [(k, v)] from rfl]
  refine hQ _ S _ _ hm (w.new ha) ?_
  show DatP K _ _ (.dict [(keyD k, d)]) _
  simp only [DatP]
  exact ⟨a, [(k, v)], rfl, w.free ha, upd_same, by simp only [DatPK]; exact ⟨k, v, [], rfl, rfl, hd _ _, rfl⟩⟩
end TL
namespace TL
open PySem PySem.Spec PyProof.Rows L2 PC LamX
section
variable {K : PySem.W.Frag} {α ρ : Type} {ε : WX} {G : Gm K}
/-- the same, of one kind of result alone -/
def ttF (r3 : ρ → Dm K) (r : α → Dm K) (wt : W K α → W K ρ) : LamTl → Addr → Addr → Str → Hp → VK → Prop := fun tl f c' q H Q =>
  ∃ (S : Store K) (F : Pl) (Pc : Pl → Hp → Prop) (m : W K α) (Qp : ρ → Store K → Prop) (Ep : Err K → Store K → Prop), (∀ {Z H Z' H'}, Stp Z H Z' H' → Pc Z H → Pc Z' H') ∧ Wd S F H ∧ Pc (Zd S F) H ∧ ¬ Zd S F c' ∧ H c' = some (CodeO c' q) ∧ LamSim Pc r m tl ∧
    wt m Qp Ep S ∧ (∀ y S' H' v, Qp y S' → Nxt S F H S' H' → (r3 y).at_ (Zd S' F) H' v → Q v H') ∧ ∀ e S', Ep e S' → False
theorem givesF {P : Program} {w : World} {mg : Str → Option Value} {base : Heap} {k : Nat} {g : Addr} {x : Str} {st : Stmt} {Ng : List Str} {a : Str} {r3 : ρ → Dm K} {r : α → Dm K} {wt : W K α → W K ρ}
    (body : ∀ (cdv : Value) (A : Around) (outer : List Env) (s : Shared) (H : Hp) (f c' : Addr) (q : Str) (tl : LamTl), GOkA K A base → Room k (A.deeper (envOfC x (defScope st) s.heap.objs.size g cdv)) →
      (∀ (W : WX) (pn : List (Addr × Obj)) (xe : Value → Shared → Prop) (p1 p2 : Pos), Takes ((cxg P w K mg base Ng x st g cdv A outer s H E0).tr pn xe) W → PE ((cxg P w K mg base Ng x st g cdv A outer s H E0).tr pn xe) (.Call (.Name a p1) [] [] p2) (tCall 0 f c' q W tl)) →
      ∃ t, PSs (cxg P w K mg base Ng x st g cdv A outer s H E0) (defBody st) t ∧ ∀ (Pc : Pl → Hp → Prop) (st : ∀ Z H Z' H', Stp Z H Z' H' → Pc Z H → Pc Z' H') (m : W K α), LamSim Pc r m tl →
        ∃ mm : W K (Flow Unit ρ), SimS (fun c d _ H => E0 c d H) none (envOf [kLam f c' q Pc st ()] Ng.length) [t] (fun _ : Unit => List.replicate Ng.length none) r3 mm ∧ ∀ Q E S, wt m Q E S → outW mm none Q E S) :
    GivesT P w K mg base k g x st Ng a (ttF r3 r wt) := by
  intro cdv A outer s H Q f c' q tl hg hr act h
  obtain ⟨S0, F0, Pc, m, Qp, Ep, stb, wd, hp, n, hc, hl, hw, hQ, hE⟩ := h
  obtain ⟨t, ht, hh⟩ := body cdv A outer s H f c' q tl hg hr act
  obtain ⟨mm, hs, hm⟩ := hh Pc (fun _ _ _ _ => stb) m hl
  refine ⟨t, ht, ?_⟩
  have q' := hm Qp Ep S0 hw
  refine hs S0 F0 H S0 H _ { nx := fun _ H' => Q .non H', rt := Q } _ Ep ⟨.refl wd, sat_start ⟨.ref f, [], rfl, ⟨rfl, n, hc, hp⟩, rfl⟩⟩ q' (fun _ S' H' σ' z c' => z.elim) (fun _ _ _ _ z _ => z.elim) (fun y S' H' v z r' hv => hQ y S' H' v z r' hv)
    (fun e S' H' c dd σ' he r' _ hk => (hE e S' he).elim)
theorem sim_lamF {P : Addr} {q : Str} {r : α → Dm K} {m : W K α} {r3 : ρ → Dm K} {wt : W K α → W K ρ} {tb : XK → TE} (hb : ∀ E : XK, Sim (fun c d _ H => E c d H) G (tb E) r m) :
    Sim ε G (tLamC P q (ttF r3 r wt) tb) r3 (wLam P q (wt m)) := by
  intro S F σ H Q Qp Ep w s ⟨hS, hm⟩ hQ hE
  obtain ⟨ps, e, t, g⟩ := w.cell P _ hS
  refine ⟨ps, e, ⟨t, fun pos cv h => by obtain ⟨c, e1, n, e2⟩ := g pos cv h; exact ⟨c, e1, e2, .inr e2⟩⟩, fun f c' H1 ps1 h1 ⟨t1, g1⟩ kp hc ho => ?_⟩
  have zP : Zd S F P := .inl (by rw [hS]; exact fun z => nomatch z)
  have stp : Stp (Zd S F) H (Zd S F) H1 := ⟨fun b o n e => kp b o (fun z => n (z ▸ zP)) e, fun b z => .inl z⟩
  have sq : Stq S H S H1 := ⟨fun b o n e => kp b o (fun z => by rw [z, hS] at n; cases n) e, fun b n => .inl n, fun b n => by
    by_cases z : b = P
    · rw [z, h1]; exact fun z => nomatch z
    · cases e : H b with
      | none => exact absurd e n
      | some o => rw [kp b o z e]; exact fun z => nomatch z⟩
  have w1 : Wd S F H1 := by
    refine ⟨sq.one w, fun a x ea => ?_, fun a fa => ?_, w.dis⟩
    · by_cases z : a = P
      · subst z
        rw [hS] at ea
        cases ea
        exact ⟨ps1, h1, t1, fun pos cv h => by
          obtain ⟨c, e1, e2, e3⟩ := g1 pos cv h
          exact ⟨c, e1, w.kind e3, e2⟩⟩
      · exact (w.cell a x ea).up stp fun o e => kp a o z e
    · have z : a ≠ P := fun z => by have := w.dis a fa; rw [z, hS] at this; cases this
      exact (w.foc a fa).keep fun o e => kp a o z e
  have nx : Nxt S F H S H1 := ⟨sq, w1⟩
  refine ⟨S, F, fun Z H => Sat G Z H σ, m, Qp, fun _ _ => False, fun r s => s.up r, w1, s.up stp, w.kind ho, hc, ?_, hm, fun y S' H' v hy r' hv => hQ y S' H' v hy (nx.trans r') hv, fun _ _ z => z⟩
  intro E S2 F2 H2 Q2 Qp2 Ep2 w2 s2 hm2 hQ2 hE2
  exact hb E S2 F2 σ H2 Q2 Qp2 Ep2 w2 s2 hm2 hQ2 fun e S' H' c d he r' ha => hE2 e S' H' c d he r' ha
end
end TL

namespace PC
open PySem PySem.Spec PySem.W
/-- the table of code objects of a def, from the written part -/
theorem tab_in {K : Frag} {x : Str} {f c P : Addr} {fo co : Obj} {fd : FuncData} {vs : Array Value} (h1 : nsIn K mainGlobals x = some (some (.ref f))) (h2 : K.lookup f = some fo) (h3 : fo.data = .func fd) (h4 : fd.code = .ref c)
    (h5 : K.lookup c = some co) (h6 : co.data = .fields vs) (h7 : vs[11]? = some (.ref P)) : tabIn K x = some (c, P) := by
  obtain ⟨a1, a2, a3, a4⟩ := fo
  obtain ⟨b1, b2, b3, b4⟩ := co
  cases h3
  cases h6
  unfold tabIn
  simp only [h1, h2, h4, h5, h7]
end PC

set_option Elab.async false
set_option linter.all false
set_option maxRecDepth 100000
set_option maxHeartbeats 4000000
namespace PX
open PySem PySem.Spec PyProof.Rows L2 PC TL
local macro_rules | `(tactic| wtm_at "v1") => `(tactic| with_reducible first
  | refine s_seq ?_ | refine s_asg ?_ | refine s_gname ?_ | refine s_ifS ?_ | refine s_ret ?_ | refine s_drop ?_ | refine s_next ?_ | refine s_par ?_
  | refine s_c ?_ | refine s_op ?_ | refine s_un ?_ | refine s_nil ?_ | refine s_cons ?_ | refine s_cb ?_ | refine s_ck ?_
  | refine s_if ?_ | refine s_andV ?_ | refine s_orV ?_ | refine s_notV ?_ | refine s_chain ?_ | refine s_lst ?_ | refine s_tup ?_
  | refine s_slice ?_ | refine s_part ?_ | refine s_noPart ?_ | refine s_test ?_ | refine s_tB ?_ | refine s_not ?_ | refine s_and ?_ | refine s_or ?_ | refine s_retN ?_
  | refine s_rI0 ?_ | refine s_rU ?_ | refine s_add_int ?_ | refine s_eq_int ?_ | refine s_ne_int ?_ | refine s_eq_str ?_ | refine s_ne_str ?_
  | refine s_gcons ?_ | refine s_gnil ?_ | refine s_gsub ?_
  | refine s_yes ?_ | refine s_in_c ?_ | refine s_notIn_c ?_
  | refine s_tlc ?_ | refine s_iStr ?_ | refine s_iList ?_ | refine s_iTup ?_ | refine s_iRng1 ?_ | refine s_iRng2 ?_ | refine s_for ?_
  | refine s_ms ?_ | refine s_mks ?_ | refine s_fld ?_ | refine s_sfld ?_ | refine s_m1 ?_ | refine s_bits ?_ | refine s_cs ?_ | refine s_cks ?_ | refine s_bm ?_ | refine s_bm0 ?_ | refine s_iZip ?_ | refine s_lstRg ?_ | refine s_rg1 ?_ | refine s_rg2 ?_ | refine s_raise ?_ | refine s_xf ?_
  | refine iteT ?_ | refine iteF ?_ | refine ite_nf ?_ | refine ite_nt ?_)
/-! a side condition of an operation -/
local macro_rules | `(tactic| wtm_at "sc") => `(tactic| first
  | (show (0 : Int) < _; first | decide | omega)
  | exact cmul_r (by decide) (by decide) | exact cmul_l (by decide) (by decide) | exact cmul_r (by omega) (by omega) | exact cmul_l (by omega) (by omega)
  | exact cpow (by decide) (by decide) (by decide) | exact cdw (by decide) (by decide) | exact cdw (by omega) (by omega))
local macro_rules | `(tactic| wtm_at "v2") => `(tactic| first
  | wtm_at "v1"
  | (with_reducible refine s_var (by with_unfolding_all rfl) ?_)
  | ((with_reducible apply s_rI); focus (with_unfolding_all wtm_at "sc"))
  | (with_reducible refine ⟨_, rfl, ?_⟩)
  | (with_reducible refine ⟨⟨_, rfl⟩, ?_⟩)
  | (with_reducible refine ⟨_, _, rfl, ?_⟩))
local macro_rules | `(tactic| wtm_at "v") => `(tactic| repeat wtm_at "v2")
/-! the world, the store of draws, a datum, behind the steps that were made -/
local macro_rules | `(tactic| wtm_at "r") => `(tactic| first
  | exact R.refl _ _
  | assumption
  | exact R.of_same (by assumption)
  | (refine R.trans ?_ (by assumption); wtm_at "r")
  | (refine R.trans ?_ (R.of_same (by assumption)); wtm_at "r"))
local macro_rules | `(tactic| wtm_at "m") => `(tactic| try simp only [↓ret_bnd, ↓bnd_ret, ↓bnd_bnd, ↓raise_bnd, ↓ass_bnd, ↓if_bnd, ↓if_t, ↓if_f, ↓if_not, ↓if_rets, ↓ass_true, ↓calm_ret, ↓calm_bnd, ↓calm_ass, ↓out_rt, ↓out_nx, ↓out_bnd, ↓out_raise, ↓out_ass, ↓out_if, ↓aft_nx, ↓aft_rt, ↓aftT_nx, ↓aftT_rt, ↓seq_bnd, ↓pk_bnd, ↓setF_bnd, ↓setI_bnd, ↓app_bnd, ↓putK_bnd, ↓putT_bnd, ↓rcv_bnd, ↓pk_out, ↓setF_out, ↓setI_out, ↓app_out, ↓putK_out, ↓putT_out, ↓rcv_out, ↓calm_calm, ↓as_int, ↓rcv_tt, ↓some_bnd, ite_true, ite_false, decide_true, decide_false])

/-! ### the text -/
def topS (i : Nat) : Stmt := PySem.Challenge.pw_paritycells_k17_three_simple_flips.main.body.getD i (.Pass ⟨0, 0, 0, 0⟩)
def clsB : Stmt → List Stmt
  | .ClassDef (body := b) .. => b
  | _ => []
def clsS (i j : Nat) : Stmt := (clsB (topS i)).getD j (.Pass ⟨0, 0, 0, 0⟩)
abbrev st__law_pot : Stmt := topS 33
abbrev N__law_pot : List Str := ["_law_script", "_law_k", "_law_digits"]
theorem sc__law_pot : FnScope N__law_pot ["_law_script", "_law_k"] (defScope st__law_pot) :=
  ⟨rfl, rfl, rfl, by decide +kernel, rfl, by decide +kernel, by decide +kernel⟩
abbrev st__law_draw : Stmt := topS 34
abbrev N__law_draw : List Str := ["_law_pot_here", "_law_many", "_law_digit"]
theorem sc__law_draw : FnScope N__law_draw ["_law_pot_here", "_law_many"] (defScope st__law_draw) :=
  ⟨rfl, rfl, rfl, by decide +kernel, rfl, by decide +kernel, by decide +kernel⟩
abbrev st__law_any_thing : Stmt := topS 39
abbrev N__law_any_thing : List Str := ["_law_pot_here", "_law_far", "_law_some"]
theorem sc__law_any_thing : FnScope N__law_any_thing ["_law_pot_here"] (defScope st__law_any_thing) :=
  ⟨rfl, rfl, rfl, by decide +kernel, rfl, by decide +kernel, by decide +kernel⟩
abbrev st__law_one : Stmt := topS 42
abbrev N__law_one : List Str := ["_law_pot_here"]
theorem sc__law_one : FnScope N__law_one ["_law_pot_here"] (defScope st__law_one) :=
  ⟨rfl, rfl, rfl, by decide +kernel, rfl, by decide +kernel, by decide +kernel⟩
abbrev st__law_is_int : Stmt := topS 40
abbrev N__law_is_int : List Str := ["_law_item", "_law_low", "_law_high"]
theorem sc__law_is_int : FnScope N__law_is_int ["_law_item", "_law_low", "_law_high"] (defScope st__law_is_int) :=
  ⟨rfl, rfl, rfl, by decide +kernel, rfl, by decide +kernel, by decide +kernel⟩
abbrev st_cells_in : Stmt := topS 16
abbrev N_cells_in : List Str := ["mask", "cell"]
theorem sc_cells_in : FnScope N_cells_in ["mask"] (defScope st_cells_in) :=
  ⟨rfl, rfl, rfl, by decide +kernel, rfl, by decide +kernel, by decide +kernel⟩
abbrev st_Flip__toggled : Stmt := clsS 25 2
abbrev N_Flip__toggled : List Str := ["self"]
theorem sc_Flip__toggled : FnScope N_Flip__toggled ["self"] (defScope st_Flip__toggled) :=
  ⟨rfl, rfl, rfl, by decide +kernel, rfl, by decide +kernel, by decide +kernel⟩
abbrev st_Flip__tested : Stmt := clsS 25 1
abbrev N_Flip__tested : List Str := ["self"]
theorem sc_Flip__tested : FnScope N_Flip__tested ["self"] (defScope st_Flip__tested) :=
  ⟨rfl, rfl, rfl, by decide +kernel, rfl, by decide +kernel, by decide +kernel⟩
abbrev st__law_met : Stmt := topS 41
abbrev N__law_met : List Str := ["_law_call", "_law_told", "e", "_law_flip"]
theorem sc__law_met : FnScope N__law_met ["_law_call"] (defScope st__law_met) :=
  ⟨rfl, rfl, rfl, by decide +kernel, rfl, by decide +kernel, by decide +kernel⟩
abbrev st_is_integer_in : Stmt := topS 11
abbrev N_is_integer_in : List Str := ["thing", "low", "high"]
theorem sc_is_integer_in : FnScope N_is_integer_in ["thing", "low", "high"] (defScope st_is_integer_in) :=
  ⟨rfl, rfl, rfl, by decide +kernel, rfl, by decide +kernel, by decide +kernel⟩
abbrev st_require_cell : Stmt := topS 14
abbrev N_require_cell : List Str := ["cell", "low", "size"]
theorem sc_require_cell : FnScope N_require_cell ["cell", "low", "size"] (defScope st_require_cell) :=
  ⟨rfl, rfl, rfl, by decide +kernel, rfl, by decide +kernel, by decide +kernel⟩
abbrev st_mask_of : Stmt := topS 15
abbrev N_mask_of : List Str := ["cells", "cell"]
theorem sc_mask_of : FnScope N_mask_of ["cells"] (defScope st_mask_of) :=
  ⟨rfl, rfl, rfl, by decide +kernel, rfl, by decide +kernel, by decide +kernel⟩
abbrev st_is_cell : Stmt := topS 12
abbrev N_is_cell : List Str := ["thing", "size"]
theorem sc_is_cell : FnScope N_is_cell ["thing", "size"] (defScope st_is_cell) :=
  ⟨rfl, rfl, rfl, by decide +kernel, rfl, by decide +kernel, by decide +kernel⟩
abbrev st_cell_tuple : Stmt := topS 18
abbrev N_cell_tuple : List Str := ["things", "size", "one", "found", "other"]
theorem sc_cell_tuple : FnScope N_cell_tuple ["things", "size"] (defScope st_cell_tuple) :=
  ⟨rfl, rfl, rfl, by decide +kernel, rfl, by decide +kernel, by decide +kernel⟩
abbrev st_cell_mask : Stmt := topS 19
abbrev N_cell_mask : List Str := ["things", "size"]
theorem sc_cell_mask : FnScope N_cell_mask ["things", "size"] (defScope st_cell_mask) :=
  ⟨rfl, rfl, rfl, by decide +kernel, rfl, by decide +kernel, by decide +kernel⟩
abbrev st_is_odd : Stmt := topS 17
abbrev N_is_odd : List Str := ["mask", "rest", "found"]
theorem sc_is_odd : FnScope N_is_odd ["mask"] (defScope st_is_odd) :=
  ⟨rfl, rfl, rfl, by decide +kernel, rfl, by decide +kernel, by decide +kernel⟩
abbrev st_Flip____init__ : Stmt := clsS 25 0
abbrev N_Flip____init__ : List Str := ["self", "tested", "toggled"]
theorem sc_Flip____init__ : FnScope N_Flip____init__ ["self", "tested", "toggled"] (defScope st_Flip____init__) :=
  ⟨rfl, rfl, rfl, by decide +kernel, rfl, by decide +kernel, by decide +kernel⟩
abbrev st_turn_flip : Stmt := topS 26
abbrev N_turn_flip : List Str := ["cell"]
theorem sc_turn_flip : FnScope N_turn_flip ["cell"] (defScope st_turn_flip) :=
  ⟨rfl, rfl, rfl, by decide +kernel, rfl, by decide +kernel, by decide +kernel⟩
abbrev st_add_flip : Stmt := topS 27
abbrev N_add_flip : List Str := ["cell", "to"]
theorem sc_add_flip : FnScope N_add_flip ["cell", "to"] (defScope st_add_flip) :=
  ⟨rfl, rfl, rfl, by decide +kernel, rfl, by decide +kernel, by decide +kernel⟩
abbrev st__law_due : Stmt := topS 43
abbrev N__law_due : List Str := ["_law_near", "_law_far", "_law_least", "_law_is_swap", "_law_both"]
theorem sc__law_due : FnScope N__law_due ["_law_near", "_law_far", "_law_least", "_law_is_swap"] (defScope st__law_due) :=
  ⟨rfl, rfl, rfl, by decide +kernel, rfl, by decide +kernel, by decide +kernel⟩
abbrev st_swap_flip : Stmt := topS 28
abbrev N_swap_flip : List Str := ["one", "other"]
theorem sc_swap_flip : FnScope N_swap_flip ["one", "other"] (defScope st_swap_flip) :=
  ⟨rfl, rfl, rfl, by decide +kernel, rfl, by decide +kernel, by decide +kernel⟩
abbrev st__law_bits : Stmt := topS 35
abbrev N__law_bits : List Str := ["_law_pot_here", "_law_width", "_law_spot"]
theorem sc__law_bits : FnScope N__law_bits ["_law_pot_here", "_law_width"] (defScope st__law_bits) :=
  ⟨rfl, rfl, rfl, by decide +kernel, rfl, by decide +kernel, by decide +kernel⟩
abbrev st_require_size : Stmt := topS 13
abbrev N_require_size : List Str := ["size"]
theorem sc_require_size : FnScope N_require_size ["size"] (defScope st_require_size) :=
  ⟨rfl, rfl, rfl, by decide +kernel, rfl, by decide +kernel, by decide +kernel⟩
abbrev st_Board____init__ : Stmt := clsS 22 0
abbrev N_Board____init__ : List Str := ["self", "size", "up"]
theorem sc_Board____init__ : FnScope N_Board____init__ ["self", "size", "up"] (defScope st_Board____init__) :=
  ⟨rfl, rfl, rfl, by decide +kernel, rfl, by decide +kernel, by decide +kernel⟩
abbrev st__law_up : Stmt := topS 36
abbrev N__law_up : List Str := ["_law_bits_here", "_law_spot", "_law_bit"]
theorem sc__law_up : FnScope N__law_up ["_law_bits_here"] (defScope st__law_up) :=
  ⟨rfl, rfl, rfl, by decide +kernel, rfl, by decide +kernel, by decide +kernel⟩
abbrev st__law_made : Stmt := topS 37
abbrev N__law_made : List Str := ["_law_bits_here"]
theorem sc__law_made : FnScope N__law_made ["_law_bits_here"] (defScope st__law_made) :=
  ⟨rfl, rfl, rfl, by decide +kernel, rfl, by decide +kernel, by decide +kernel⟩
abbrev st_Board__size : Stmt := clsS 22 1
abbrev N_Board__size : List Str := ["self"]
theorem sc_Board__size : FnScope N_Board__size ["self"] (defScope st_Board__size) :=
  ⟨rfl, rfl, rfl, by decide +kernel, rfl, by decide +kernel, by decide +kernel⟩
abbrev st_Board__up : Stmt := clsS 22 2
abbrev N_Board__up : List Str := ["self"]
theorem sc_Board__up : FnScope N_Board__up ["self"] (defScope st_Board__up) :=
  ⟨rfl, rfl, rfl, by decide +kernel, rfl, by decide +kernel, by decide +kernel⟩
abbrev st__law_is_so : Stmt := topS 38
abbrev N__law_is_so : List Str := ["_law_found", "_law_bits_here"]
theorem sc__law_is_so : FnScope N__law_is_so ["_law_found", "_law_bits_here"] (defScope st__law_is_so) :=
  ⟨rfl, rfl, rfl, by decide +kernel, rfl, by decide +kernel, by decide +kernel⟩
abbrev st_Flip__width : Stmt := clsS 25 4
abbrev N_Flip__width : List Str := ["self"]
theorem sc_Flip__width : FnScope N_Flip__width ["self"] (defScope st_Flip__width) :=
  ⟨rfl, rfl, rfl, by decide +kernel, rfl, by decide +kernel, by decide +kernel⟩
abbrev st_require_fit : Stmt := topS 29
abbrev N_require_fit : List Str := ["flip", "size"]
theorem sc_require_fit : FnScope N_require_fit ["flip", "size"] (defScope st_require_fit) :=
  ⟨rfl, rfl, rfl, by decide +kernel, rfl, by decide +kernel, by decide +kernel⟩
abbrev st_board_of : Stmt := topS 23
abbrev N_board_of : List Str := ["size", "mask"]
theorem sc_board_of : FnScope N_board_of ["size", "mask"] (defScope st_board_of) :=
  ⟨rfl, rfl, rfl, by decide +kernel, rfl, by decide +kernel, by decide +kernel⟩
abbrev st_mask_after : Stmt := topS 30
abbrev N_mask_after : List Str := ["up_mask", "flip"]
theorem sc_mask_after : FnScope N_mask_after ["up_mask", "flip"] (defScope st_mask_after) :=
  ⟨rfl, rfl, rfl, by decide +kernel, rfl, by decide +kernel, by decide +kernel⟩
abbrev st_apply_flip : Stmt := topS 31
abbrev N_apply_flip : List Str := ["board", "flip"]
theorem sc_apply_flip : FnScope N_apply_flip ["board", "flip"] (defScope st_apply_flip) :=
  ⟨rfl, rfl, rfl, by decide +kernel, rfl, by decide +kernel, by decide +kernel⟩
abbrev st__law_effects_right : Stmt := topS 44
abbrev N__law_effects_right : List Str := ["_law_pot_here", "_law_width", "_law_bits_here", "_law_near", "_law_far", "_law_spot", "_law_turned", "_law_added", "_law_swapped", "_law_board"]
theorem sc__law_effects_right : FnScope N__law_effects_right ["_law_pot_here"] (defScope st__law_effects_right) :=
  ⟨rfl, rfl, rfl, by decide +kernel, rfl, by decide +kernel, by decide +kernel⟩
abbrev st_law : Stmt := topS 45
abbrev N_law : List Str := ["_law_script", "_law_k", "_law_pot_here", "_law_turn", "_law_due_here", "_law_near", "_law_far"]
theorem sc_law : FnScope N_law ["_law_script"] (defScope st_law) :=
  ⟨rfl, rfl, rfl, by decide +kernel, rfl, by decide +kernel, by decide +kernel⟩
abbrev st_NoSize : Stmt := clsS 4 0
theorem d_NoSize : ErDef st_NoSize "NoSize.__init__" "CellError" "value" [] where
  bind := fun _ _ _ _ _ _ us h => match us, h with | [_, _], _ => rfl
  co := rfl
  gen := rfl
  kind := rfl
  loc := by decide +kernel
  glo := rfl
  nd := by decide +kernel
  few := by decide
  ndb := by decide +kernel
  hi := fun _ _ _ => rfl
  body := ⟨_, _, _, _, _, _, _, _, (_, _, _, _), [], _, rfl, by refine ⟨?_, rfl⟩; exact fun _ _ _ => rfl⟩
abbrev st_NoCell : Stmt := clsS 5 0
theorem d_NoCell : ErDef st_NoCell "NoCell.__init__" "CellError" "cell" [] where
  bind := fun _ _ _ _ _ _ us h => match us, h with | [_, _], _ => rfl
  co := rfl
  gen := rfl
  kind := rfl
  loc := by decide +kernel
  glo := rfl
  nd := by decide +kernel
  few := by decide
  ndb := by decide +kernel
  hi := fun _ _ _ => rfl
  body := ⟨_, _, _, _, _, _, _, _, (_, _, _, _), [], _, rfl, by refine ⟨?_, rfl⟩; exact fun _ _ _ => rfl⟩
abbrev st_NoCells : Stmt := clsS 6 0
theorem d_NoCells : ErDef st_NoCells "NoCells.__init__" "CellError" "cells" [] where
  bind := fun _ _ _ _ _ _ us h => match us, h with | [_, _], _ => rfl
  co := rfl
  gen := rfl
  kind := rfl
  loc := by decide +kernel
  glo := rfl
  nd := by decide +kernel
  few := by decide
  ndb := by decide +kernel
  hi := fun _ _ _ => rfl
  body := ⟨_, _, _, _, _, _, _, _, (_, _, _, _), [], _, rfl, by refine ⟨?_, rfl⟩; exact fun _ _ _ => rfl⟩
abbrev st_NoFlip : Stmt := clsS 7 0
theorem d_NoFlip : ErDef st_NoFlip "NoFlip.__init__" "CellError" "why" [] where
  bind := fun _ _ _ _ _ _ us h => match us, h with | [_, _], _ => rfl
  co := rfl
  gen := rfl
  kind := rfl
  loc := by decide +kernel
  glo := rfl
  nd := by decide +kernel
  few := by decide
  ndb := by decide +kernel
  hi := fun _ _ _ => rfl
  body := ⟨_, _, _, _, _, _, _, _, (_, _, _, _), [], _, rfl, by refine ⟨?_, rfl⟩; exact fun _ _ _ => rfl⟩
abbrev st_TooWide : Stmt := clsS 8 0
theorem d_TooWide : ErDef st_TooWide "TooWide.__init__" "LimitError" "needed" [] where
  bind := fun _ _ _ _ _ _ us h => match us, h with | [_, _], _ => rfl
  co := rfl
  gen := rfl
  kind := rfl
  loc := by decide +kernel
  glo := rfl
  nd := by decide +kernel
  few := by decide
  ndb := by decide +kernel
  hi := fun _ _ _ => rfl
  body := ⟨_, _, _, _, _, _, _, _, (_, _, _, _), [], _, rfl, by refine ⟨?_, rfl⟩; exact fun _ _ _ => rfl⟩
/-- where the classes stand -/
structure Cl where
  CellError : Addr
  LimitError : Addr
  NoSize : Addr
  NoCell : Addr
  NoCells : Addr
  NoFlip : Addr
  TooWide : Addr
  Board : Addr
  Flip : Addr
  d_Board____init___up : Addr
  tb_law : Addr
/-- the lambdas that it makes are named so -/
abbrev q_law : Str := ("law" : Str) ++ ".<locals>." ++ "<lambda>"
abbrev tabs (cl : Cl) : List (Addr × Str) := [(cl.tb_law, q_law)]
/-- where the text's defs stand; what is still the built-in -/
structure Tx (K : PySem.W.Frag) (mg : Str → Option Value) (cl : Cl) where
  lb : Heap
  tnd : ((tabs cl).map (·.1)).Nodup
  a__law_pot : Addr
  fd__law_pot : FuncData
  F__law_pot : Fun K "_law_pot" "_law_pot" st__law_pot a__law_pot fd__law_pot
  g__law_pot : mg "_law_pot" = some (.ref a__law_pot)
  a__law_draw : Addr
  fd__law_draw : FuncData
  F__law_draw : Fun K "_law_draw" "_law_draw" st__law_draw a__law_draw fd__law_draw
  g__law_draw : mg "_law_draw" = some (.ref a__law_draw)
  a__law_any_thing : Addr
  fd__law_any_thing : FuncData
  F__law_any_thing : Fun K "_law_any_thing" "_law_any_thing" st__law_any_thing a__law_any_thing fd__law_any_thing
  g__law_any_thing : mg "_law_any_thing" = some (.ref a__law_any_thing)
  a__law_one : Addr
  fd__law_one : FuncData
  F__law_one : Fun K "_law_one" "_law_one" st__law_one a__law_one fd__law_one
  g__law_one : mg "_law_one" = some (.ref a__law_one)
  a__law_is_int : Addr
  fd__law_is_int : FuncData
  F__law_is_int : Fun K "_law_is_int" "_law_is_int" st__law_is_int a__law_is_int fd__law_is_int
  g__law_is_int : mg "_law_is_int" = some (.ref a__law_is_int)
  a_cells_in : Addr
  fd_cells_in : FuncData
  F_cells_in : Fun K "cells_in" "cells_in" st_cells_in a_cells_in fd_cells_in
  g_cells_in : mg "cells_in" = some (.ref a_cells_in)
  a_Flip__toggled : Addr
  fd_Flip__toggled : FuncData
  F_Flip__toggled : Fun K "toggled" "Flip.toggled" st_Flip__toggled a_Flip__toggled fd_Flip__toggled
  m_Flip__toggled : Meth K cl.Flip "toggled" a_Flip__toggled
  a_Flip__tested : Addr
  fd_Flip__tested : FuncData
  F_Flip__tested : Fun K "tested" "Flip.tested" st_Flip__tested a_Flip__tested fd_Flip__tested
  m_Flip__tested : Meth K cl.Flip "tested" a_Flip__tested
  a__law_met : Addr
  fd__law_met : FuncData
  F__law_met : Fun K "_law_met" "_law_met" st__law_met a__law_met fd__law_met
  g__law_met : mg "_law_met" = some (.ref a__law_met)
  a_is_integer_in : Addr
  fd_is_integer_in : FuncData
  F_is_integer_in : Fun K "is_integer_in" "is_integer_in" st_is_integer_in a_is_integer_in fd_is_integer_in
  g_is_integer_in : mg "is_integer_in" = some (.ref a_is_integer_in)
  a_require_cell : Addr
  fd_require_cell : FuncData
  F_require_cell : Fun K "require_cell" "require_cell" st_require_cell a_require_cell fd_require_cell
  g_require_cell : mg "require_cell" = some (.ref a_require_cell)
  a_mask_of : Addr
  fd_mask_of : FuncData
  F_mask_of : Fun K "mask_of" "mask_of" st_mask_of a_mask_of fd_mask_of
  g_mask_of : mg "mask_of" = some (.ref a_mask_of)
  a_is_cell : Addr
  fd_is_cell : FuncData
  F_is_cell : Fun K "is_cell" "is_cell" st_is_cell a_is_cell fd_is_cell
  g_is_cell : mg "is_cell" = some (.ref a_is_cell)
  D_is_cell : FunD K "is_cell" "is_cell" (defArgs st_is_cell) (defBody st_is_cell) (defScope st_is_cell) [] [("size", V.int 40)] a_is_cell fd_is_cell
  a_cell_tuple : Addr
  fd_cell_tuple : FuncData
  F_cell_tuple : Fun K "cell_tuple" "cell_tuple" st_cell_tuple a_cell_tuple fd_cell_tuple
  g_cell_tuple : mg "cell_tuple" = some (.ref a_cell_tuple)
  D_cell_tuple : FunD K "cell_tuple" "cell_tuple" (defArgs st_cell_tuple) (defBody st_cell_tuple) (defScope st_cell_tuple) [] [("size", V.int 40)] a_cell_tuple fd_cell_tuple
  a_cell_mask : Addr
  fd_cell_mask : FuncData
  F_cell_mask : Fun K "cell_mask" "cell_mask" st_cell_mask a_cell_mask fd_cell_mask
  g_cell_mask : mg "cell_mask" = some (.ref a_cell_mask)
  a_is_odd : Addr
  fd_is_odd : FuncData
  F_is_odd : Fun K "is_odd" "is_odd" st_is_odd a_is_odd fd_is_odd
  g_is_odd : mg "is_odd" = some (.ref a_is_odd)
  a_Flip____init__ : Addr
  fd_Flip____init__ : FuncData
  F_Flip____init__ : Fun K "__init__" "Flip.__init__" st_Flip____init__ a_Flip____init__ fd_Flip____init__
  mk_Flip : Mk K cl.Flip a_Flip____init__
  a_turn_flip : Addr
  fd_turn_flip : FuncData
  F_turn_flip : Fun K "turn_flip" "turn_flip" st_turn_flip a_turn_flip fd_turn_flip
  g_turn_flip : mg "turn_flip" = some (.ref a_turn_flip)
  a_add_flip : Addr
  fd_add_flip : FuncData
  F_add_flip : Fun K "add_flip" "add_flip" st_add_flip a_add_flip fd_add_flip
  g_add_flip : mg "add_flip" = some (.ref a_add_flip)
  a__law_due : Addr
  fd__law_due : FuncData
  F__law_due : Fun K "_law_due" "_law_due" st__law_due a__law_due fd__law_due
  g__law_due : mg "_law_due" = some (.ref a__law_due)
  a_swap_flip : Addr
  fd_swap_flip : FuncData
  F_swap_flip : Fun K "swap_flip" "swap_flip" st_swap_flip a_swap_flip fd_swap_flip
  g_swap_flip : mg "swap_flip" = some (.ref a_swap_flip)
  a__law_bits : Addr
  fd__law_bits : FuncData
  F__law_bits : Fun K "_law_bits" "_law_bits" st__law_bits a__law_bits fd__law_bits
  g__law_bits : mg "_law_bits" = some (.ref a__law_bits)
  a_require_size : Addr
  fd_require_size : FuncData
  F_require_size : Fun K "require_size" "require_size" st_require_size a_require_size fd_require_size
  g_require_size : mg "require_size" = some (.ref a_require_size)
  a_Board____init__ : Addr
  fd_Board____init__ : FuncData
  F_Board____init__ : Fun K "__init__" "Board.__init__" st_Board____init__ a_Board____init__ fd_Board____init__
  mk_Board : Mk K cl.Board a_Board____init__
  D_Board____init__ : FunD K "__init__" "Board.__init__" (defArgs st_Board____init__) (defBody st_Board____init__) (defScope st_Board____init__) [] [("up", V.ref cl.d_Board____init___up)] a_Board____init__ fd_Board____init__
  dt_Board____init___up : SqT K (fun _ => none) cl.d_Board____init___up []
  a__law_up : Addr
  fd__law_up : FuncData
  F__law_up : Fun K "_law_up" "_law_up" st__law_up a__law_up fd__law_up
  g__law_up : mg "_law_up" = some (.ref a__law_up)
  a__law_made : Addr
  fd__law_made : FuncData
  F__law_made : Fun K "_law_made" "_law_made" st__law_made a__law_made fd__law_made
  g__law_made : mg "_law_made" = some (.ref a__law_made)
  a_Board__size : Addr
  fd_Board__size : FuncData
  F_Board__size : Fun K "size" "Board.size" st_Board__size a_Board__size fd_Board__size
  m_Board__size : Meth K cl.Board "size" a_Board__size
  a_Board__up : Addr
  fd_Board__up : FuncData
  F_Board__up : Fun K "up" "Board.up" st_Board__up a_Board__up fd_Board__up
  m_Board__up : Meth K cl.Board "up" a_Board__up
  a__law_is_so : Addr
  fd__law_is_so : FuncData
  F__law_is_so : Fun K "_law_is_so" "_law_is_so" st__law_is_so a__law_is_so fd__law_is_so
  g__law_is_so : mg "_law_is_so" = some (.ref a__law_is_so)
  a_Flip__width : Addr
  fd_Flip__width : FuncData
  F_Flip__width : Fun K "width" "Flip.width" st_Flip__width a_Flip__width fd_Flip__width
  m_Flip__width : Meth K cl.Flip "width" a_Flip__width
  a_require_fit : Addr
  fd_require_fit : FuncData
  F_require_fit : Fun K "require_fit" "require_fit" st_require_fit a_require_fit fd_require_fit
  g_require_fit : mg "require_fit" = some (.ref a_require_fit)
  a_board_of : Addr
  fd_board_of : FuncData
  F_board_of : Fun K "board_of" "board_of" st_board_of a_board_of fd_board_of
  g_board_of : mg "board_of" = some (.ref a_board_of)
  a_mask_after : Addr
  fd_mask_after : FuncData
  F_mask_after : Fun K "mask_after" "mask_after" st_mask_after a_mask_after fd_mask_after
  g_mask_after : mg "mask_after" = some (.ref a_mask_after)
  a_apply_flip : Addr
  fd_apply_flip : FuncData
  F_apply_flip : Fun K "apply_flip" "apply_flip" st_apply_flip a_apply_flip fd_apply_flip
  g_apply_flip : mg "apply_flip" = some (.ref a_apply_flip)
  a__law_effects_right : Addr
  fd__law_effects_right : FuncData
  F__law_effects_right : Fun K "_law_effects_right" "_law_effects_right" st__law_effects_right a__law_effects_right fd__law_effects_right
  g__law_effects_right : mg "_law_effects_right" = some (.ref a__law_effects_right)
  a_law : Addr
  fd_law : FuncData
  F_law : Fun K "law" "law" st_law a_law fd_law
  lc_law : Addr
  lk_law : fd_law.code = .ref lc_law
  tb_law : LamX.TabB lb mg lc_law cl.tb_law
  g_law : mg "law" = some (.ref a_law)
  g_CellError : mg "CellError" = some (.ref cl.CellError)
  q_CellError : ErrQ K cl.CellError
  g_LimitError : mg "LimitError" = some (.ref cl.LimitError)
  q_LimitError : ErrQ K cl.LimitError
  f_NoSize : Addr
  e_NoSize : ErrT K mg "NoSize" "CellError" "ValueError" "ValueError.__new__" "ValueError.__init__" [.type "ValueError", .type "Exception", .type "BaseException", .type "object"] "value" [] cl.NoSize cl.CellError f_NoSize st_NoSize
  q_NoSize : ErrQ K cl.NoSize
  f_NoCell : Addr
  e_NoCell : ErrT K mg "NoCell" "CellError" "ValueError" "ValueError.__new__" "ValueError.__init__" [.type "ValueError", .type "Exception", .type "BaseException", .type "object"] "cell" [] cl.NoCell cl.CellError f_NoCell st_NoCell
  q_NoCell : ErrQ K cl.NoCell
  f_NoCells : Addr
  e_NoCells : ErrT K mg "NoCells" "CellError" "ValueError" "ValueError.__new__" "ValueError.__init__" [.type "ValueError", .type "Exception", .type "BaseException", .type "object"] "cells" [] cl.NoCells cl.CellError f_NoCells st_NoCells
  q_NoCells : ErrQ K cl.NoCells
  f_NoFlip : Addr
  e_NoFlip : ErrT K mg "NoFlip" "CellError" "ValueError" "ValueError.__new__" "ValueError.__init__" [.type "ValueError", .type "Exception", .type "BaseException", .type "object"] "why" [] cl.NoFlip cl.CellError f_NoFlip st_NoFlip
  q_NoFlip : ErrQ K cl.NoFlip
  f_TooWide : Addr
  e_TooWide : ErrT K mg "TooWide" "LimitError" "ArithmeticError" "ArithmeticError.__new__" "ArithmeticError.__init__" [.type "ArithmeticError", .type "Exception", .type "BaseException", .type "object"] "needed" [] cl.TooWide cl.LimitError f_TooWide st_TooWide
  q_TooWide : ErrQ K cl.TooWide
  cq : ClsQ K
  gc_Board : mg "Board" = some (.ref cl.Board)
  cls_Board : Cls K cl.Board
  ty_Board : InstT K cl.Board
  no_Board_own_size : NoAttr K cl.Board "own_size"
  no_Board_up_mask : NoAttr K cl.Board "up_mask"
  gc_Flip : mg "Flip" = some (.ref cl.Flip)
  cls_Flip : Cls K cl.Flip
  ty_Flip : InstT K cl.Flip
  no_Flip_test_mask : NoAttr K cl.Flip "test_mask"
  no_Flip_toggle_mask : NoAttr K cl.Flip "toggle_mask"
  s_NoSize_CellError : PySem.W.subIn K (.ref cl.NoSize) (.ref cl.CellError) = some true
  s_NoSize_NoCell : PySem.W.subIn K (.ref cl.NoSize) (.ref cl.NoCell) = some false
  s_NoSize_NoCells : PySem.W.subIn K (.ref cl.NoSize) (.ref cl.NoCells) = some false
  s_NoSize_NoFlip : PySem.W.subIn K (.ref cl.NoSize) (.ref cl.NoFlip) = some false
  s_NoCell_CellError : PySem.W.subIn K (.ref cl.NoCell) (.ref cl.CellError) = some true
  s_NoCell_NoCell : PySem.W.subIn K (.ref cl.NoCell) (.ref cl.NoCell) = some true
  s_NoCell_NoCells : PySem.W.subIn K (.ref cl.NoCell) (.ref cl.NoCells) = some false
  s_NoCell_NoFlip : PySem.W.subIn K (.ref cl.NoCell) (.ref cl.NoFlip) = some false
  s_NoCells_CellError : PySem.W.subIn K (.ref cl.NoCells) (.ref cl.CellError) = some true
  s_NoCells_NoCell : PySem.W.subIn K (.ref cl.NoCells) (.ref cl.NoCell) = some false
  s_NoCells_NoCells : PySem.W.subIn K (.ref cl.NoCells) (.ref cl.NoCells) = some true
  s_NoCells_NoFlip : PySem.W.subIn K (.ref cl.NoCells) (.ref cl.NoFlip) = some false
  s_NoFlip_CellError : PySem.W.subIn K (.ref cl.NoFlip) (.ref cl.CellError) = some true
  s_NoFlip_NoCell : PySem.W.subIn K (.ref cl.NoFlip) (.ref cl.NoCell) = some false
  s_NoFlip_NoCells : PySem.W.subIn K (.ref cl.NoFlip) (.ref cl.NoCells) = some false
  s_NoFlip_NoFlip : PySem.W.subIn K (.ref cl.NoFlip) (.ref cl.NoFlip) = some true
  s_TooWide_CellError : PySem.W.subIn K (.ref cl.TooWide) (.ref cl.CellError) = some false
  s_TooWide_NoCell : PySem.W.subIn K (.ref cl.TooWide) (.ref cl.NoCell) = some false
  s_TooWide_NoCells : PySem.W.subIn K (.ref cl.TooWide) (.ref cl.NoCells) = some false
  s_TooWide_NoFlip : PySem.W.subIn K (.ref cl.TooWide) (.ref cl.NoFlip) = some false
  z_abs : mg "abs" = none
  z_all : mg "all" = none
  z_bool : mg "bool" = none
  z_divmod : mg "divmod" = none
  z_enumerate : mg "enumerate" = none
  z_int : mg "int" = none
  z_isinstance : mg "isinstance" = none
  z_len : mg "len" = none
  z_list : mg "list" = none
  z_max : mg "max" = none
  z_min : mg "min" = none
  z_range : mg "range" = none
  z_repr : mg "repr" = none
  z_sorted : mg "sorted" = none
  z_sum : mg "sum" = none
  z_tuple : mg "tuple" = none
  z_zip : mg "zip" = none
  t_MOST_CELLS : Tok
  c_MOST_CELLS : mg "MOST_CELLS" = some (.int 40 t_MOST_CELLS)
section
variable {P : Program} {w : World} {K : PySem.W.Frag} {mg : Str → Option Value} {base : Heap} {cl : Cl}
theorem b__law_pot (T : Tx K mg cl) : Binds K T.fd__law_pot ["_law_script", "_law_k"] [] := T.F__law_pot.binds fun _ _ _ _ _ _ us hl => match us, hl with | [_, _], _ => rfl
theorem b__law_draw (T : Tx K mg cl) : Binds K T.fd__law_draw ["_law_pot_here", "_law_many"] [] := T.F__law_draw.binds fun _ _ _ _ _ _ us hl => match us, hl with | [_, _], _ => rfl
theorem b__law_any_thing (T : Tx K mg cl) : Binds K T.fd__law_any_thing ["_law_pot_here"] [] := T.F__law_any_thing.binds fun _ _ _ _ _ _ us hl => match us, hl with | [_], _ => rfl
theorem b__law_one (T : Tx K mg cl) : Binds K T.fd__law_one ["_law_pot_here"] [] := T.F__law_one.binds fun _ _ _ _ _ _ us hl => match us, hl with | [_], _ => rfl
theorem b__law_is_int (T : Tx K mg cl) : Binds K T.fd__law_is_int ["_law_item", "_law_low", "_law_high"] [] := T.F__law_is_int.binds fun _ _ _ _ _ _ us hl => match us, hl with | [_, _, _], _ => rfl
theorem b_cells_in (T : Tx K mg cl) : Binds K T.fd_cells_in ["mask"] [] := T.F_cells_in.binds fun _ _ _ _ _ _ us hl => match us, hl with | [_], _ => rfl
theorem b_Flip__toggled (T : Tx K mg cl) : Binds K T.fd_Flip__toggled ["self"] [] := T.F_Flip__toggled.binds fun _ _ _ _ _ _ us hl => match us, hl with | [_], _ => rfl
theorem b_Flip__tested (T : Tx K mg cl) : Binds K T.fd_Flip__tested ["self"] [] := T.F_Flip__tested.binds fun _ _ _ _ _ _ us hl => match us, hl with | [_], _ => rfl
theorem b__law_met (T : Tx K mg cl) : Binds K T.fd__law_met ["_law_call"] [] := T.F__law_met.binds fun _ _ _ _ _ _ us hl => match us, hl with | [_], _ => rfl
theorem b_is_integer_in (T : Tx K mg cl) : Binds K T.fd_is_integer_in ["thing", "low", "high"] [] := T.F_is_integer_in.binds fun _ _ _ _ _ _ us hl => match us, hl with | [_, _, _], _ => rfl
theorem b_require_cell (T : Tx K mg cl) : Binds K T.fd_require_cell ["cell", "low", "size"] [] := T.F_require_cell.binds fun _ _ _ _ _ _ us hl => match us, hl with | [_, _, _], _ => rfl
theorem b_mask_of (T : Tx K mg cl) : Binds K T.fd_mask_of ["cells"] [] := T.F_mask_of.binds fun _ _ _ _ _ _ us hl => match us, hl with | [_], _ => rfl
theorem b_cell_mask (T : Tx K mg cl) : Binds K T.fd_cell_mask ["things", "size"] [] := T.F_cell_mask.binds fun _ _ _ _ _ _ us hl => match us, hl with | [_, _], _ => rfl
theorem b_is_odd (T : Tx K mg cl) : Binds K T.fd_is_odd ["mask"] [] := T.F_is_odd.binds fun _ _ _ _ _ _ us hl => match us, hl with | [_], _ => rfl
theorem b_Flip____init__ (T : Tx K mg cl) : Binds K T.fd_Flip____init__ ["self", "tested", "toggled"] [] := T.F_Flip____init__.binds fun _ _ _ _ _ _ us hl => match us, hl with | [_, _, _], _ => rfl
theorem b_turn_flip (T : Tx K mg cl) : Binds K T.fd_turn_flip ["cell"] [] := T.F_turn_flip.binds fun _ _ _ _ _ _ us hl => match us, hl with | [_], _ => rfl
theorem b__law_due (T : Tx K mg cl) : Binds K T.fd__law_due ["_law_near", "_law_far", "_law_least", "_law_is_swap"] [] := T.F__law_due.binds fun _ _ _ _ _ _ us hl => match us, hl with | [_, _, _, _], _ => rfl
theorem b_swap_flip (T : Tx K mg cl) : Binds K T.fd_swap_flip ["one", "other"] [] := T.F_swap_flip.binds fun _ _ _ _ _ _ us hl => match us, hl with | [_, _], _ => rfl
theorem b__law_bits (T : Tx K mg cl) : Binds K T.fd__law_bits ["_law_pot_here", "_law_width"] [] := T.F__law_bits.binds fun _ _ _ _ _ _ us hl => match us, hl with | [_, _], _ => rfl
theorem b_require_size (T : Tx K mg cl) : Binds K T.fd_require_size ["size"] [] := T.F_require_size.binds fun _ _ _ _ _ _ us hl => match us, hl with | [_], _ => rfl
theorem b__law_up (T : Tx K mg cl) : Binds K T.fd__law_up ["_law_bits_here"] [] := T.F__law_up.binds fun _ _ _ _ _ _ us hl => match us, hl with | [_], _ => rfl
theorem b__law_made (T : Tx K mg cl) : Binds K T.fd__law_made ["_law_bits_here"] [] := T.F__law_made.binds fun _ _ _ _ _ _ us hl => match us, hl with | [_], _ => rfl
theorem b_Board__size (T : Tx K mg cl) : Binds K T.fd_Board__size ["self"] [] := T.F_Board__size.binds fun _ _ _ _ _ _ us hl => match us, hl with | [_], _ => rfl
theorem b_Board__up (T : Tx K mg cl) : Binds K T.fd_Board__up ["self"] [] := T.F_Board__up.binds fun _ _ _ _ _ _ us hl => match us, hl with | [_], _ => rfl
theorem b__law_is_so (T : Tx K mg cl) : Binds K T.fd__law_is_so ["_law_found", "_law_bits_here"] [] := T.F__law_is_so.binds fun _ _ _ _ _ _ us hl => match us, hl with | [_, _], _ => rfl
theorem b_Flip__width (T : Tx K mg cl) : Binds K T.fd_Flip__width ["self"] [] := T.F_Flip__width.binds fun _ _ _ _ _ _ us hl => match us, hl with | [_], _ => rfl
theorem b_require_fit (T : Tx K mg cl) : Binds K T.fd_require_fit ["flip", "size"] [] := T.F_require_fit.binds fun _ _ _ _ _ _ us hl => match us, hl with | [_, _], _ => rfl
theorem b_board_of (T : Tx K mg cl) : Binds K T.fd_board_of ["size", "mask"] [] := T.F_board_of.binds fun _ _ _ _ _ _ us hl => match us, hl with | [_, _], _ => rfl
theorem b_mask_after (T : Tx K mg cl) : Binds K T.fd_mask_after ["up_mask", "flip"] [] := T.F_mask_after.binds fun _ _ _ _ _ _ us hl => match us, hl with | [_, _], _ => rfl
theorem b_apply_flip (T : Tx K mg cl) : Binds K T.fd_apply_flip ["board", "flip"] [] := T.F_apply_flip.binds fun _ _ _ _ _ _ us hl => match us, hl with | [_, _], _ => rfl
theorem b__law_effects_right (T : Tx K mg cl) : Binds K T.fd__law_effects_right ["_law_pot_here"] [] := T.F__law_effects_right.binds fun _ _ _ _ _ _ us hl => match us, hl with | [_], _ => rfl
theorem kb_Board____init____2_up (T : Tx K mg cl) : KBinds K T.fd_Board____init__ ["self", "size", "up"] ["up"] (kwg 2 1 [0, 1, 2]) (kwg 2 1 [0, 1, 2]) :=
  kb_of T.F_Board____init__ (by decide) fun _ _ _ _ _ _ us ws h1 h2 => match us, ws, h1, h2 with | [_, _], [_], _, _ => rfl
theorem kb_add_flip__0_to_cell (T : Tx K mg cl) : KBinds K T.fd_add_flip ["cell", "to"] ["to", "cell"] (kwg 0 2 [1, 0]) (kwg 0 2 [1, 0]) :=
  kb_of T.F_add_flip (by decide) fun _ _ _ _ _ _ us ws h1 h2 => match us, ws, h1, h2 with | [], [_, _], _, _ => rfl
theorem kb_add_flip__1_to (T : Tx K mg cl) : KBinds K T.fd_add_flip ["cell", "to"] ["to"] (kwg 1 1 [0, 1]) (kwg 1 1 [0, 1]) :=
  kb_of T.F_add_flip (by decide) fun _ _ _ _ _ _ us ws h1 h2 => match us, ws, h1, h2 with | [_], [_], _, _ => rfl
theorem kb_cell_tuple__1_size (T : Tx K mg cl) : KBinds K T.fd_cell_tuple ["things", "size"] ["size"] (kwg 1 1 [0, 1]) (kwg 1 1 [0, 1]) :=
  kb_of T.F_cell_tuple (by decide) fun _ _ _ _ _ _ us ws h1 h2 => match us, ws, h1, h2 with | [_], [_], _, _ => rfl
theorem kb_is_cell__1_size (T : Tx K mg cl) : KBinds K T.fd_is_cell ["thing", "size"] ["size"] (kwg 1 1 [0, 1]) (kwg 1 1 [0, 1]) :=
  kb_of T.F_is_cell (by decide) fun _ _ _ _ _ _ us ws h1 h2 => match us, ws, h1, h2 with | [_], [_], _, _ => rfl
theorem kb_swap_flip__0_other_one (T : Tx K mg cl) : KBinds K T.fd_swap_flip ["one", "other"] ["other", "one"] (kwg 0 2 [1, 0]) (kwg 0 2 [1, 0]) :=
  kb_of T.F_swap_flip (by decide) fun _ _ _ _ _ _ us ws h1 h2 => match us, ws, h1, h2 with | [], [_, _], _, _ => rfl
theorem kb_turn_flip__0_cell (T : Tx K mg cl) : KBinds K T.fd_turn_flip ["cell"] ["cell"] (kwg 0 1 [0]) (kwg 0 1 [0]) :=
  kb_of T.F_turn_flip (by decide) fun _ _ _ _ _ _ us ws h1 h2 => match us, ws, h1, h2 with | [], [_], _, _ => rfl
def fs_Board (K : PySem.W.Frag) (cl : Cl) : (Nat × Nat) → List (Str × Dm K) := fun x => [("own_size", kI ((x.1 : Int))), ("up_mask", kI ((x.2 : Int)))]
def k_Board (K : PySem.W.Frag) (cl : Cl) : (Nat × Nat) → Dm K := fun x => dI cl.Board (fs_Board K cl x)
theorem fl_Board_own_size {x : (Nat × Nat)} : (fs_Board K cl x).lookup ("own_size" : Str) = some (kI ((x.1 : Int))) := by rfl
theorem fl_Board_up_mask {x : (Nat × Nat)} : (fs_Board K cl x).lookup ("up_mask" : Str) = some (kI ((x.2 : Int))) := by rfl
theorem rc_Board_size : Rcv K (k_Board K cl) cl.Board "size" (fun _ _ => True) := rcv_I (fs := fs_Board K cl) (fun _ => rfl) (fun _ => by rfl)
theorem rc_Board_up : Rcv K (k_Board K cl) cl.Board "up" (fun _ _ => True) := rcv_I (fs := fs_Board K cl) (fun _ => rfl) (fun _ => by rfl)
def fs_Flip (K : PySem.W.Frag) (cl : Cl) : (Nat × Nat) → List (Str × Dm K) := fun x => [("test_mask", kI ((x.1 : Int))), ("toggle_mask", kI ((x.2 : Int)))]
def k_Flip (K : PySem.W.Frag) (cl : Cl) : (Nat × Nat) → Dm K := fun x => dI cl.Flip (fs_Flip K cl x)
theorem fl_Flip_test_mask {x : (Nat × Nat)} : (fs_Flip K cl x).lookup ("test_mask" : Str) = some (kI ((x.1 : Int))) := by rfl
theorem fl_Flip_toggle_mask {x : (Nat × Nat)} : (fs_Flip K cl x).lookup ("toggle_mask" : Str) = some (kI ((x.2 : Int))) := by rfl
theorem rc_Flip_toggled : Rcv K (k_Flip K cl) cl.Flip "toggled" (fun _ _ => True) := rcv_I (fs := fs_Flip K cl) (fun _ => rfl) (fun _ => by rfl)
theorem rc_Flip_tested : Rcv K (k_Flip K cl) cl.Flip "tested" (fun _ _ => True) := rcv_I (fs := fs_Flip K cl) (fun _ => rfl) (fun _ => by rfl)
theorem rc_Flip_width : Rcv K (k_Flip K cl) cl.Flip "width" (fun _ _ => True) := rcv_I (fs := fs_Flip K cl) (fun _ => rfl) (fun _ => by rfl)
theorem ie_NoSize_CellError (T : Tx K mg cl) {fs : List (Str × Dm K)} : wIsE (cl.NoSize, fs) (Value.ref cl.CellError) = ret true := isE_of T.q_NoSize T.cq (ErrQ.kit T.q_CellError T.s_NoSize_CellError)
theorem ie_NoSize_NoCell (T : Tx K mg cl) {fs : List (Str × Dm K)} : wIsE (cl.NoSize, fs) (Value.ref cl.NoCell) = ret false := isE_of T.q_NoSize T.cq (ErrQ.kit T.q_NoCell T.s_NoSize_NoCell)
theorem ct_NoSize_NoCell (T : Tx K mg cl) {α : Type} {fs : List (Str × Dm K)} {h n : Err K → W K α} : wCatch cl.NoCell h n (cl.NoSize, fs) = n (cl.NoSize, fs) := catch_n (ErrQ.exm T.q_NoCell T.s_NoSize_NoCell)
theorem ie_NoSize_NoCells (T : Tx K mg cl) {fs : List (Str × Dm K)} : wIsE (cl.NoSize, fs) (Value.ref cl.NoCells) = ret false := isE_of T.q_NoSize T.cq (ErrQ.kit T.q_NoCells T.s_NoSize_NoCells)
theorem ct_NoSize_NoCells (T : Tx K mg cl) {α : Type} {fs : List (Str × Dm K)} {h n : Err K → W K α} : wCatch cl.NoCells h n (cl.NoSize, fs) = n (cl.NoSize, fs) := catch_n (ErrQ.exm T.q_NoCells T.s_NoSize_NoCells)
theorem ie_NoSize_NoFlip (T : Tx K mg cl) {fs : List (Str × Dm K)} : wIsE (cl.NoSize, fs) (Value.ref cl.NoFlip) = ret false := isE_of T.q_NoSize T.cq (ErrQ.kit T.q_NoFlip T.s_NoSize_NoFlip)
theorem ct_NoSize_NoFlip (T : Tx K mg cl) {α : Type} {fs : List (Str × Dm K)} {h n : Err K → W K α} : wCatch cl.NoFlip h n (cl.NoSize, fs) = n (cl.NoSize, fs) := catch_n (ErrQ.exm T.q_NoFlip T.s_NoSize_NoFlip)
theorem ie_NoCell_CellError (T : Tx K mg cl) {fs : List (Str × Dm K)} : wIsE (cl.NoCell, fs) (Value.ref cl.CellError) = ret true := isE_of T.q_NoCell T.cq (ErrQ.kit T.q_CellError T.s_NoCell_CellError)
theorem ie_NoCell_NoCell (T : Tx K mg cl) {fs : List (Str × Dm K)} : wIsE (cl.NoCell, fs) (Value.ref cl.NoCell) = ret true := isE_of T.q_NoCell T.cq (ErrQ.kit T.q_NoCell T.s_NoCell_NoCell)
theorem ct_NoCell_NoCell (T : Tx K mg cl) {α : Type} {fs : List (Str × Dm K)} {h n : Err K → W K α} : wCatch cl.NoCell h n (cl.NoCell, fs) = h (cl.NoCell, fs) := catch_y (ErrQ.exm T.q_NoCell T.s_NoCell_NoCell)
theorem ie_NoCell_NoCells (T : Tx K mg cl) {fs : List (Str × Dm K)} : wIsE (cl.NoCell, fs) (Value.ref cl.NoCells) = ret false := isE_of T.q_NoCell T.cq (ErrQ.kit T.q_NoCells T.s_NoCell_NoCells)
theorem ct_NoCell_NoCells (T : Tx K mg cl) {α : Type} {fs : List (Str × Dm K)} {h n : Err K → W K α} : wCatch cl.NoCells h n (cl.NoCell, fs) = n (cl.NoCell, fs) := catch_n (ErrQ.exm T.q_NoCells T.s_NoCell_NoCells)
theorem ie_NoCell_NoFlip (T : Tx K mg cl) {fs : List (Str × Dm K)} : wIsE (cl.NoCell, fs) (Value.ref cl.NoFlip) = ret false := isE_of T.q_NoCell T.cq (ErrQ.kit T.q_NoFlip T.s_NoCell_NoFlip)
theorem ct_NoCell_NoFlip (T : Tx K mg cl) {α : Type} {fs : List (Str × Dm K)} {h n : Err K → W K α} : wCatch cl.NoFlip h n (cl.NoCell, fs) = n (cl.NoCell, fs) := catch_n (ErrQ.exm T.q_NoFlip T.s_NoCell_NoFlip)
theorem ie_NoCells_CellError (T : Tx K mg cl) {fs : List (Str × Dm K)} : wIsE (cl.NoCells, fs) (Value.ref cl.CellError) = ret true := isE_of T.q_NoCells T.cq (ErrQ.kit T.q_CellError T.s_NoCells_CellError)
theorem ie_NoCells_NoCell (T : Tx K mg cl) {fs : List (Str × Dm K)} : wIsE (cl.NoCells, fs) (Value.ref cl.NoCell) = ret false := isE_of T.q_NoCells T.cq (ErrQ.kit T.q_NoCell T.s_NoCells_NoCell)
theorem ct_NoCells_NoCell (T : Tx K mg cl) {α : Type} {fs : List (Str × Dm K)} {h n : Err K → W K α} : wCatch cl.NoCell h n (cl.NoCells, fs) = n (cl.NoCells, fs) := catch_n (ErrQ.exm T.q_NoCell T.s_NoCells_NoCell)
theorem ie_NoCells_NoCells (T : Tx K mg cl) {fs : List (Str × Dm K)} : wIsE (cl.NoCells, fs) (Value.ref cl.NoCells) = ret true := isE_of T.q_NoCells T.cq (ErrQ.kit T.q_NoCells T.s_NoCells_NoCells)
theorem ct_NoCells_NoCells (T : Tx K mg cl) {α : Type} {fs : List (Str × Dm K)} {h n : Err K → W K α} : wCatch cl.NoCells h n (cl.NoCells, fs) = h (cl.NoCells, fs) := catch_y (ErrQ.exm T.q_NoCells T.s_NoCells_NoCells)
theorem ie_NoCells_NoFlip (T : Tx K mg cl) {fs : List (Str × Dm K)} : wIsE (cl.NoCells, fs) (Value.ref cl.NoFlip) = ret false := isE_of T.q_NoCells T.cq (ErrQ.kit T.q_NoFlip T.s_NoCells_NoFlip)
theorem ct_NoCells_NoFlip (T : Tx K mg cl) {α : Type} {fs : List (Str × Dm K)} {h n : Err K → W K α} : wCatch cl.NoFlip h n (cl.NoCells, fs) = n (cl.NoCells, fs) := catch_n (ErrQ.exm T.q_NoFlip T.s_NoCells_NoFlip)
theorem ie_NoFlip_CellError (T : Tx K mg cl) {fs : List (Str × Dm K)} : wIsE (cl.NoFlip, fs) (Value.ref cl.CellError) = ret true := isE_of T.q_NoFlip T.cq (ErrQ.kit T.q_CellError T.s_NoFlip_CellError)
theorem ie_NoFlip_NoCell (T : Tx K mg cl) {fs : List (Str × Dm K)} : wIsE (cl.NoFlip, fs) (Value.ref cl.NoCell) = ret false := isE_of T.q_NoFlip T.cq (ErrQ.kit T.q_NoCell T.s_NoFlip_NoCell)
theorem ct_NoFlip_NoCell (T : Tx K mg cl) {α : Type} {fs : List (Str × Dm K)} {h n : Err K → W K α} : wCatch cl.NoCell h n (cl.NoFlip, fs) = n (cl.NoFlip, fs) := catch_n (ErrQ.exm T.q_NoCell T.s_NoFlip_NoCell)
theorem ie_NoFlip_NoCells (T : Tx K mg cl) {fs : List (Str × Dm K)} : wIsE (cl.NoFlip, fs) (Value.ref cl.NoCells) = ret false := isE_of T.q_NoFlip T.cq (ErrQ.kit T.q_NoCells T.s_NoFlip_NoCells)
theorem ct_NoFlip_NoCells (T : Tx K mg cl) {α : Type} {fs : List (Str × Dm K)} {h n : Err K → W K α} : wCatch cl.NoCells h n (cl.NoFlip, fs) = n (cl.NoFlip, fs) := catch_n (ErrQ.exm T.q_NoCells T.s_NoFlip_NoCells)
theorem ie_NoFlip_NoFlip (T : Tx K mg cl) {fs : List (Str × Dm K)} : wIsE (cl.NoFlip, fs) (Value.ref cl.NoFlip) = ret true := isE_of T.q_NoFlip T.cq (ErrQ.kit T.q_NoFlip T.s_NoFlip_NoFlip)
theorem ct_NoFlip_NoFlip (T : Tx K mg cl) {α : Type} {fs : List (Str × Dm K)} {h n : Err K → W K α} : wCatch cl.NoFlip h n (cl.NoFlip, fs) = h (cl.NoFlip, fs) := catch_y (ErrQ.exm T.q_NoFlip T.s_NoFlip_NoFlip)
theorem ie_TooWide_CellError (T : Tx K mg cl) {fs : List (Str × Dm K)} : wIsE (cl.TooWide, fs) (Value.ref cl.CellError) = ret false := isE_of T.q_TooWide T.cq (ErrQ.kit T.q_CellError T.s_TooWide_CellError)
theorem ie_TooWide_NoCell (T : Tx K mg cl) {fs : List (Str × Dm K)} : wIsE (cl.TooWide, fs) (Value.ref cl.NoCell) = ret false := isE_of T.q_TooWide T.cq (ErrQ.kit T.q_NoCell T.s_TooWide_NoCell)
theorem ct_TooWide_NoCell (T : Tx K mg cl) {α : Type} {fs : List (Str × Dm K)} {h n : Err K → W K α} : wCatch cl.NoCell h n (cl.TooWide, fs) = n (cl.TooWide, fs) := catch_n (ErrQ.exm T.q_NoCell T.s_TooWide_NoCell)
theorem ie_TooWide_NoCells (T : Tx K mg cl) {fs : List (Str × Dm K)} : wIsE (cl.TooWide, fs) (Value.ref cl.NoCells) = ret false := isE_of T.q_TooWide T.cq (ErrQ.kit T.q_NoCells T.s_TooWide_NoCells)
theorem ct_TooWide_NoCells (T : Tx K mg cl) {α : Type} {fs : List (Str × Dm K)} {h n : Err K → W K α} : wCatch cl.NoCells h n (cl.TooWide, fs) = n (cl.TooWide, fs) := catch_n (ErrQ.exm T.q_NoCells T.s_TooWide_NoCells)
theorem ie_TooWide_NoFlip (T : Tx K mg cl) {fs : List (Str × Dm K)} : wIsE (cl.TooWide, fs) (Value.ref cl.NoFlip) = ret false := isE_of T.q_TooWide T.cq (ErrQ.kit T.q_NoFlip T.s_TooWide_NoFlip)
theorem ct_TooWide_NoFlip (T : Tx K mg cl) {α : Type} {fs : List (Str × Dm K)} {h n : Err K → W K α} : wCatch cl.NoFlip h n (cl.TooWide, fs) = n (cl.TooWide, fs) := catch_n (ErrQ.exm T.q_NoFlip T.s_TooWide_NoFlip)
theorem ies_NoSize (T : Tx K mg cl) {fs : List (Str × Dm K)} {us : List Value} : wIsEs (cl.NoSize, fs) us = wIsGo (cl.NoSize, fs) us := isEs_of T.q_NoSize T.cq
theorem ies_NoCell (T : Tx K mg cl) {fs : List (Str × Dm K)} {us : List Value} : wIsEs (cl.NoCell, fs) us = wIsGo (cl.NoCell, fs) us := isEs_of T.q_NoCell T.cq
theorem ies_NoCells (T : Tx K mg cl) {fs : List (Str × Dm K)} {us : List Value} : wIsEs (cl.NoCells, fs) us = wIsGo (cl.NoCells, fs) us := isEs_of T.q_NoCells T.cq
theorem ies_NoFlip (T : Tx K mg cl) {fs : List (Str × Dm K)} {us : List Value} : wIsEs (cl.NoFlip, fs) us = wIsGo (cl.NoFlip, fs) us := isEs_of T.q_NoFlip T.cq
theorem ies_TooWide (T : Tx K mg cl) {fs : List (Str × Dm K)} {us : List Value} : wIsEs (cl.TooWide, fs) us = wIsGo (cl.TooWide, fs) us := isEs_of T.q_TooWide T.cq
local macro_rules | `(tactic| wtm_at "cls") => `(tactic| first | exact Tx.cls_Board (by assumption) | exact Tx.cls_Flip (by assumption))
local macro_rules | `(tactic| wtm_at "noat") => `(tactic| first | exact Tx.no_Board_own_size (by assumption) | exact Tx.no_Board_up_mask (by assumption) | exact Tx.no_Flip_test_mask (by assumption) | exact Tx.no_Flip_toggle_mask (by assumption))
local macro_rules | `(tactic| wtm_at "isc") => `(tactic| first | exact Tx.ty_Board (by assumption) | exact Tx.ty_Flip (by assumption))
local macro_rules | `(tactic| wtm_at "kit") => `(tactic| first | exact ErrQ.kit (Tx.q_CellError (by assumption)) (Tx.s_NoSize_CellError (by assumption)) | exact ErrQ.kit (Tx.q_NoCell (by assumption)) (Tx.s_NoSize_NoCell (by assumption)) | exact ErrQ.kit (Tx.q_NoCells (by assumption)) (Tx.s_NoSize_NoCells (by assumption)) | exact ErrQ.kit (Tx.q_NoFlip (by assumption)) (Tx.s_NoSize_NoFlip (by assumption)) | exact ErrQ.kit (Tx.q_CellError (by assumption)) (Tx.s_NoCell_CellError (by assumption)) | exact ErrQ.kit (Tx.q_NoCell (by assumption)) (Tx.s_NoCell_NoCell (by assumption)) | exact ErrQ.kit (Tx.q_NoCells (by assumption)) (Tx.s_NoCell_NoCells (by assumption)) | exact ErrQ.kit (Tx.q_NoFlip (by assumption)) (Tx.s_NoCell_NoFlip (by assumption)) | exact ErrQ.kit (Tx.q_CellError (by assumption)) (Tx.s_NoCells_CellError (by assumption)) | exact ErrQ.kit (Tx.q_NoCell (by assumption)) (Tx.s_NoCells_NoCell (by assumption)) | exact ErrQ.kit (Tx.q_NoCells (by assumption)) (Tx.s_NoCells_NoCells (by assumption)) | exact ErrQ.kit (Tx.q_NoFlip (by assumption)) (Tx.s_NoCells_NoFlip (by assumption)) | exact ErrQ.kit (Tx.q_CellError (by assumption)) (Tx.s_NoFlip_CellError (by assumption)) | exact ErrQ.kit (Tx.q_NoCell (by assumption)) (Tx.s_NoFlip_NoCell (by assumption)) | exact ErrQ.kit (Tx.q_NoCells (by assumption)) (Tx.s_NoFlip_NoCells (by assumption)) | exact ErrQ.kit (Tx.q_NoFlip (by assumption)) (Tx.s_NoFlip_NoFlip (by assumption)) | exact ErrQ.kit (Tx.q_CellError (by assumption)) (Tx.s_TooWide_CellError (by assumption)) | exact ErrQ.kit (Tx.q_NoCell (by assumption)) (Tx.s_TooWide_NoCell (by assumption)) | exact ErrQ.kit (Tx.q_NoCells (by assumption)) (Tx.s_TooWide_NoCells (by assumption)) | exact ErrQ.kit (Tx.q_NoFlip (by assumption)) (Tx.s_TooWide_NoFlip (by assumption)))
local macro_rules | `(tactic| wtm_at "exm") => `(tactic| first | exact ErrQ.exm (Tx.q_CellError (by assumption)) (Tx.s_NoSize_CellError (by assumption)) | exact ErrQ.exm (Tx.q_NoCell (by assumption)) (Tx.s_NoSize_NoCell (by assumption)) | exact ErrQ.exm (Tx.q_NoCells (by assumption)) (Tx.s_NoSize_NoCells (by assumption)) | exact ErrQ.exm (Tx.q_NoFlip (by assumption)) (Tx.s_NoSize_NoFlip (by assumption)) | exact ErrQ.exm (Tx.q_CellError (by assumption)) (Tx.s_NoCell_CellError (by assumption)) | exact ErrQ.exm (Tx.q_NoCell (by assumption)) (Tx.s_NoCell_NoCell (by assumption)) | exact ErrQ.exm (Tx.q_NoCells (by assumption)) (Tx.s_NoCell_NoCells (by assumption)) | exact ErrQ.exm (Tx.q_NoFlip (by assumption)) (Tx.s_NoCell_NoFlip (by assumption)) | exact ErrQ.exm (Tx.q_CellError (by assumption)) (Tx.s_NoCells_CellError (by assumption)) | exact ErrQ.exm (Tx.q_NoCell (by assumption)) (Tx.s_NoCells_NoCell (by assumption)) | exact ErrQ.exm (Tx.q_NoCells (by assumption)) (Tx.s_NoCells_NoCells (by assumption)) | exact ErrQ.exm (Tx.q_NoFlip (by assumption)) (Tx.s_NoCells_NoFlip (by assumption)) | exact ErrQ.exm (Tx.q_CellError (by assumption)) (Tx.s_NoFlip_CellError (by assumption)) | exact ErrQ.exm (Tx.q_NoCell (by assumption)) (Tx.s_NoFlip_NoCell (by assumption)) | exact ErrQ.exm (Tx.q_NoCells (by assumption)) (Tx.s_NoFlip_NoCells (by assumption)) | exact ErrQ.exm (Tx.q_NoFlip (by assumption)) (Tx.s_NoFlip_NoFlip (by assumption)) | exact ErrQ.exm (Tx.q_CellError (by assumption)) (Tx.s_TooWide_CellError (by assumption)) | exact ErrQ.exm (Tx.q_NoCell (by assumption)) (Tx.s_TooWide_NoCell (by assumption)) | exact ErrQ.exm (Tx.q_NoCells (by assumption)) (Tx.s_TooWide_NoCells (by assumption)) | exact ErrQ.exm (Tx.q_NoFlip (by assumption)) (Tx.s_TooWide_NoFlip (by assumption)))
local macro_rules | `(tactic| wtm_at "erq") => `(tactic| first | exact Tx.q_NoSize (by assumption) | exact Tx.q_NoCell (by assumption) | exact Tx.q_NoCells (by assumption) | exact Tx.q_NoFlip (by assumption) | exact Tx.q_TooWide (by assumption) | exact Tx.q_CellError (by assumption) | exact Tx.q_LimitError (by assumption))
local macro_rules | `(tactic| wtm_at "kita") => `(tactic| first | exact kita_nil | (apply kita_no (by wtm_at "kit"); wtm_at "kita") | exact kita_yes (by wtm_at "kit"))
local macro_rules | `(tactic| wtm_at "kcl") => `(tactic| first | exact Paired.nil | (apply Paired.cons (ClsV.own _); wtm_at "kcl") | (apply Paired.cons (ClsV.ty _); wtm_at "kcl"))
local macro_rules | `(tactic| wtm_at "xd") => `(tactic| first | assumption | exact R.xdW (by assumption) (by wtm_at "r"))
local macro_rules | `(tactic| wtm_at "ei") => `(tactic| refine ⟨_, _, _, _, _, rfl, rfl, rfl, by wtm_at "xd", by wtm_at "erq", by exact Tx.cq (by assumption), .inl ⟨_, by first | exact .own _ | exact .ty _, by wtm_at "kit"⟩, ?_⟩)
local macro_rules | `(tactic| wtm_at "et") => `(tactic| refine ⟨_, _, _, _, _, rfl, rfl, rfl, by wtm_at "xd", by wtm_at "erq", by exact Tx.cq (by assumption), .inr ⟨_, _, _, rfl, by assumption, by wtm_at "kcl", by wtm_at "kita"⟩, ?_⟩)
local macro_rules | `(tactic| wtm_at "xf") => `(tactic| refine ⟨rfl, rfl, _, _, _, rfl, by wtm_at "xd", by rfl, ?_⟩)
local macro_rules | `(tactic| wtm_at "e") => `(tactic| simp only [ie_NoSize_CellError (by assumption), ie_NoSize_NoCell (by assumption), ct_NoSize_NoCell (by assumption), ie_NoSize_NoCells (by assumption), ct_NoSize_NoCells (by assumption), ie_NoSize_NoFlip (by assumption), ct_NoSize_NoFlip (by assumption), ie_NoCell_CellError (by assumption), ie_NoCell_NoCell (by assumption), ct_NoCell_NoCell (by assumption), ie_NoCell_NoCells (by assumption), ct_NoCell_NoCells (by assumption), ie_NoCell_NoFlip (by assumption), ct_NoCell_NoFlip (by assumption), ie_NoCells_CellError (by assumption), ie_NoCells_NoCell (by assumption), ct_NoCells_NoCell (by assumption), ie_NoCells_NoCells (by assumption), ct_NoCells_NoCells (by assumption), ie_NoCells_NoFlip (by assumption), ct_NoCells_NoFlip (by assumption), ie_NoFlip_CellError (by assumption), ie_NoFlip_NoCell (by assumption), ct_NoFlip_NoCell (by assumption), ie_NoFlip_NoCells (by assumption), ct_NoFlip_NoCells (by assumption), ie_NoFlip_NoFlip (by assumption), ct_NoFlip_NoFlip (by assumption), ie_TooWide_CellError (by assumption), ie_TooWide_NoCell (by assumption), ct_TooWide_NoCell (by assumption), ie_TooWide_NoCells (by assumption), ct_TooWide_NoCells (by assumption), ie_TooWide_NoFlip (by assumption), ct_TooWide_NoFlip (by assumption), ies_NoSize (by assumption), ies_NoCell (by assumption), ies_NoCells (by assumption), ies_NoFlip (by assumption), ies_TooWide (by assumption), isGo_nil, isGo_cons])
def w__law_pot (K : PySem.W.Frag) (cl : Cl) : (List Int) × Int × Unit → W K Addr := fun x Q E S => 0 ≤ x.2.1 ∧ x.2.1 < 100 ∧ ∀ p, S p = none → Q p (S.set p .pot)
abbrev sp__law_pot (K : PySem.W.Frag) (cl : Cl) : Sp := lift K (fun x : (List Int) × Int × Unit => [kSc x.1, kI x.2.1]) kRef (w__law_pot K cl)
def spo__law_pot (K : PySem.W.Frag) (cl : Cl) : Sp := fun vs H Q _ => ∃ (a : Addr) (ns : List Int) (k : Nat), vs = [.ref a, .int k] ∧ SqL K H a (ns.map V.int) ∧ k < 100 ∧ ∀ p o, H p = none → Pot p (upd H p o) → Q (.ref p) (upd H p o)
theorem okd__law_pot (T : Tx K mg cl) : FnG P w K mg base 1 T.a__law_pot T.fd__law_pot ["_law_script", "_law_k"] (spo__law_pot K cl) := by
  refine FnG.ok T.F__law_pot sc__law_pot (fun vs H Q E h => ?_) (fun cdv A outer s H vs Q E hg hr h => ?_)
  · obtain ⟨_, _, _, rfl, _, _, _⟩ := h
    rfl
  · obtain ⟨a, ns, k, rfl, hS, hk, q⟩ := h
    refine ⟨_, pss_cons (ps_set (i := 2) sc__law_pot.nd rfl (by first | exact Or.inl rfl | exact Or.inr rfl) (pe_ifExp (pt_cmpR op_lt (pv 1) (pe_callB (kx_len (K := K) rfl) (by rfl) T.z_len bt_len (pa_cons (pv 0) pa_nil)) (nomark _)) (pe_ix (kx_ix (K := K) rfl) (pv 0) (pv 1) (fun _ _ => rfl)) (pe_int)))
    (pss_one (ps_ret (pe_lst (pa_cons (pe_callB (call_max2 rfl) (by rfl) T.z_max bt_max (pa_cons (pe_int) (pa_cons (pe_op op_sub (pe_callB call_abs (by rfl) T.z_abs bt_abs (pa_cons (pv 2) pa_nil)) (pe_op op_pow (pe_int) (pe_int))) pa_nil))) (pa_cons (pe_op op_modA (pe_op (kx_add (K := K) rfl) (pe_op (kx_add (K := K) rfl) (pe_op op_mul (pe_op op_modA (pe_callB call_abs (by rfl) T.z_abs bt_abs (pa_cons (pv 2) pa_nil)) (pe_int)) (pe_int)) (pe_op op_mul (pe_int) (pv 1))) (pe_int)) (pe_int)) pa_nil))))), ?_⟩
    try dsimp only [cxg, cxOf, Cx.nox, Cx.wish]
    wtm_at "v"
    refine .inl ⟨a, _, rfl, .inl hS, ?_⟩
    wtm_at "v"
    refine ite_d (fun h0 => ?_) (fun h0 => ?_)
    · rw [List.length_map] at h0
      wtm_at "v"
      refine s_script hS (by omega) (fun z hz => ?_)
      wtm_at "v"
      refine ⟨by simp; decide, fun p hp => q _ _ hp ⟨_, _, upd_same, by split <;> omega, Int.emod_nonneg _ (by decide), Int.emod_lt_of_pos _ (by decide)⟩⟩
    · wtm_at "v"
      refine ⟨by simp; decide, fun p hp => q _ _ hp ⟨_, _, upd_same, by split <;> omega, Int.emod_nonneg _ (by decide), Int.emod_lt_of_pos _ (by decide)⟩⟩
theorem ok__law_pot (T : Tx K mg cl) : FnG P w K mg base 1 T.a__law_pot T.fd__law_pot ["_law_script", "_law_k"] (sp__law_pot K cl) := (okd__law_pot T).imp fun vs H Q E h => by
  obtain ⟨S, F, x, Qp, Ep, wd, ha, ⟨h0, h1, hw⟩, hQ, hE⟩ := h
  obtain ⟨v, w, rfl, ⟨a, rfl, n, hS⟩, hk⟩ := at2 ha
  obtain rfl := at_int hk
  refine ⟨a, x.1, x.2.1.toNat, by rw [Int.toNat_of_nonneg h0], hS, by omega, fun p o hp hP => ?_⟩
  exact hQ p _ _ _ (hw p (wd.sfree hp)) (wd.newS hp hP) rfl
def w__law_draw (K : PySem.W.Frag) (cl : Cl) : Addr × Int × Unit → W K Int := fun x Q E S => S x.1 = some .pot ∧ 0 < x.2.1 ∧ x.2.1 < 2 ^ 200 ∧ ∀ d, 0 ≤ d → d < x.2.1 → Q d S
abbrev sp__law_draw (K : PySem.W.Frag) (cl : Cl) : Sp := lift K (fun x : Addr × Int × Unit => [kRef x.1, kI x.2.1]) kI (w__law_draw K cl)
def spo__law_draw (K : PySem.W.Frag) (cl : Cl) : Sp := fun vs H Q _ => ∃ p n, vs = [.ref p, .int n] ∧ Pot p H ∧ 0 < n ∧ n.natAbs < 2 ^ 200 ∧ ∀ H' d, R p H H' → 0 ≤ d → d < n → Q (.int d) H'
theorem okd__law_draw (T : Tx K mg cl) : FnG P w K mg base 1 T.a__law_draw T.fd__law_draw ["_law_pot_here", "_law_many"] (spo__law_draw K cl) := by
  refine FnG.ok T.F__law_draw sc__law_draw (fun vs H Q E h => ?_) (fun cdv A outer s H vs Q E hg hr h => ?_)
  · obtain ⟨_, _, rfl, ⟨_, _, _, _, _, _⟩, _, _, _⟩ := h
    rfl
  · obtain ⟨p, n, rfl, ⟨a, b, e, ha, hb, hb2⟩, hn, hn2, q⟩ := h
    refine ⟨_, pss_cons (ps_if (pt_cmpR op_gt (pe_ix (kx_ix (K := K) rfl) (pv 0) (pe_int) (fun _ _ => rfl)) (pe_int) (nomark _)) (pss_cons (ps_asg (pe_callB PC.call_divmodW (by rfl) T.z_divmod bt_divmod (pa_cons (pe_ix (kx_ix (K := K) rfl) (pv 0) (pe_int) (fun _ _ => rfl)) (pa_cons (pv 1) pa_nil))) (pg_tupK (K := K) rfl rfl (pgs_cons (pg_sub (pv 0) (pe_int) set_list) (pgs_cons (pg_name (i := 2) sc__law_draw.nd rfl (by first | exact Or.inl rfl | exact Or.inr rfl)) pgs_nil))))
    (pss_one (ps_ret (pv 2)))) pss_nil)
    (pss_cons (ps_asg (pe_op op_modA (pe_op (kx_add (K := K) rfl) (pe_op op_mul (pe_ix (kx_ix (K := K) rfl) (pv 0) (pe_int) (fun _ _ => rfl)) (pe_int)) (pe_int)) (pe_int)) (pg_sub (pv 0) (pe_int) set_list))
    (pss_one (ps_ret (pe_op op_modA (pe_op op_fdivA (pe_op op_modA (pe_op op_mul (pe_ix (kx_ix (K := K) rfl) (pv 0) (pe_int) (fun _ _ => rfl)) (pe_ix (kx_ix (K := K) rfl) (pv 0) (pe_int) (fun _ _ => rfl))) (pe_int)) (pe_int)) (pv 1))))), ?_⟩
    try dsimp only [cxg, cxOf, Cx.nox, Cx.wish]
    have nf : ∀ x u, HO.lst [.int a, .int b] ≠ .frz x u := fun x u z => by cases z
    wtm_at "v"
    refine s_pot0 e ?_
    wtm_at "v"
    refine ite_d (fun h0 => ?_) (fun h0 => ?_)
    · wtm_at "v"
      refine s_pot0 e ?_
      wtm_at "v"
      refine ⟨wide_div hn hn2 (by decide) (by decide), fun t ht => ?_⟩
      have e' : (upd H t (.tup [.int (a / n), .int (a % n)])) p = some (.lst [.int a, .int b]) := by
        rw [upd_ne (ne_of_none e ht)]; exact e
      refine s_gtup (SqT.of upd_same) rfl ?_
      wtm_at "v"
      refine s_pset0 e' ?_
      wtm_at "v"
      refine q _ _ ((R.new ht).trans (R.draw e' nf (Int.ediv_nonneg ha (by omega)) hb hb2)) (Int.emod_nonneg _ (by omega)) (Int.emod_lt_of_pos _ hn)
    · wtm_at "v"
      refine s_pot1 e ?_
      wtm_at "v"
      refine s_pset1 e ?_
      have hb' := Int.emod_nonneg (b * 39373 + 12227) (show (2147483629 : Int) ≠ 0 by decide)
      have hb3 := Int.emod_lt_of_pos (b * 39373 + 12227) (show (0 : Int) < 2147483629 by decide)
      generalize (b * 39373 + 12227) % 2147483629 = c at hb' hb3
      have e2 : (upd H p (.lst [.int a, .int c])) p = some (.lst [.int a, .int c]) := upd_same
      wtm_at "v"
      refine s_pot1 e2 ?_
      wtm_at "v"
      refine s_pot1 e2 ?_
      wtm_at "v"
      wtm_at "v"
      exact q _ _ (R.draw e nf ha hb' (by omega)) (Int.emod_nonneg _ (by omega)) (Int.emod_lt_of_pos _ hn)
theorem ok__law_draw (T : Tx K mg cl) : FnG P w K mg base 1 T.a__law_draw T.fd__law_draw ["_law_pot_here", "_law_many"] (sp__law_draw K cl) := (okd__law_draw T).imp fun vs H Q E h => by
  obtain ⟨S, F, x, Qp, Ep, wd, ha, ⟨hp, h0, h1, hw⟩, hQ, hE⟩ := h
  obtain ⟨v, w, rfl, hv, hk⟩ := at2 ha
  obtain rfl := at_int hk
  cases (show v = .ref x.1 from hv)
  exact ⟨x.1, x.2.1, rfl, wd.cell _ _ hp, h0, by omega, fun H' d r d0 d1 => hQ d S H' _ (hw d d0 d1) (nxt_pot wd hp r) mk_int⟩
def w__law_any_thing (K : PySem.W.Frag) (cl : Cl) : Addr × Unit → W K PyData := fun x => outW (bnd (bnd (bnd (ret (10 : Int)) fun v1 => (bnd (ret (20 : Int)) fun v2 => (wAss (CPow v1 v2) (ret (v1 ^ (v2).toNat))))) fun v12 => (bnd (bnd (bnd (ret x.1) fun p10 => (bnd (bnd (bnd (ret (10 : Int)) fun v3 => (bnd (ret (9 : Int)) fun v4 => (wAss (CPow v3 v4) (ret (v3 ^ (v4).toNat))))) fun p8 => (bnd (ret ()) fun p9 => (ret (p8, p9)))) fun p11 => (ret (p10, p11)))) fun p5 => (w__law_draw K cl p5)) fun v13 => (ret (v12 + v13)))) fun (far_14 : Int) => (bnd (bnd (bnd (bnd (ret ()) fun v26 => (ret ((fun _ => PyData.none) v26))) fun p85 => (bnd (bnd (bnd (ret true) fun v27 => (ret (PyData.bool v27))) fun p83 => (bnd (bnd (bnd (ret false) fun v28 => (ret (PyData.bool v28))) fun p81 => (bnd (bnd (bnd (bnd (ret (1 : Int)) fun v16 => (ret (-v16))) fun v29 => (ret (PyData.int v29))) fun p79 => (bnd (bnd (bnd (ret (0 : Int)) fun v30 => (ret (PyData.int v30))) fun p77 => (bnd (bnd (bnd (ret (1 : Int)) fun v31 => (ret (PyData.int v31))) fun p75 => (bnd (bnd (bnd (ret (39 : Int)) fun v32 => (ret (PyData.int v32))) fun p73 => (bnd (bnd (bnd (ret (40 : Int)) fun v33 => (ret (PyData.int v33))) fun p71 => (bnd (bnd (bnd (ret (41 : Int)) fun v34 => (ret (PyData.int v34))) fun p69 => (bnd (bnd (bnd (ret far_14) fun v35 => (ret (PyData.int v35))) fun p67 => (bnd (bnd (bnd (bnd (ret far_14) fun v17 => (ret (-v17))) fun v36 => (ret (PyData.int v36))) fun p65 => (bnd (bnd (bnd (ret ("" : Str)) fun v37 => (ret (PyData.str v37))) fun p63 => (bnd (bnd (bnd (ret ("1" : Str)) fun v38 => (ret (PyData.str v38))) fun p61 => (bnd (bnd (bnd (ret ("a" : Str)) fun v39 => (ret (PyData.str v39))) fun p59 => (bnd (bnd (bnd (ret ("ab" : Str)) fun v40 => (ret (PyData.str v40))) fun p57 => (bnd (bnd (bnd (bnd (ret ()) fun y18 => (ret ([] : List PyData))) fun v41 => (ret ((fun xs => PyData.tuple (xs.map id)) v41))) fun p55 => (bnd (bnd (bnd (bnd (ret ()) fun y19 => (ret ([] : List PyData))) fun v42 => (ret ((fun xs => PyData.list (xs.map id)) v42))) fun p53 => (bnd (bnd (ret (PyData.dict [])) fun p51 => (bnd (bnd (bnd (bnd (bnd (ret (0 : Int)) fun p21 => (bnd (ret ()) fun p22 => (ret (p21, p22)))) fun y20 => (ret ([y20.1] : List Int))) fun v43 => (ret ((fun xs => PyData.list (xs.map PyData.int)) v43))) fun p49 => (bnd (bnd (bnd (bnd (bnd (ret (1 : Int)) fun p24 => (bnd (ret ()) fun p25 => (ret (p24, p25)))) fun y23 => (ret ([y23.1] : List Int))) fun v44 => (ret ((fun xs => PyData.tuple (xs.map PyData.int)) v44))) fun p47 => (bnd (bnd (ret (PyData.dict [(.int (1), .int (2))])) fun p45 => (bnd (ret ()) fun p46 => (ret (p45, p46)))) fun p48 => (ret (p47, p48)))) fun p50 => (ret (p49, p50)))) fun p52 => (ret (p51, p52)))) fun p54 => (ret (p53, p54)))) fun p56 => (ret (p55, p56)))) fun p58 => (ret (p57, p58)))) fun p60 => (ret (p59, p60)))) fun p62 => (ret (p61, p62)))) fun p64 => (ret (p63, p64)))) fun p66 => (ret (p65, p66)))) fun p68 => (ret (p67, p68)))) fun p70 => (ret (p69, p70)))) fun p72 => (ret (p71, p72)))) fun p74 => (ret (p73, p74)))) fun p76 => (ret (p75, p76)))) fun p78 => (ret (p77, p78)))) fun p80 => (ret (p79, p80)))) fun p82 => (ret (p81, p82)))) fun p84 => (ret (p83, p84)))) fun p86 => (ret (p85, p86)))) fun y15 => (ret ([y15.1, y15.2.1, y15.2.2.1, y15.2.2.2.1, y15.2.2.2.2.1, y15.2.2.2.2.2.1, y15.2.2.2.2.2.2.1, y15.2.2.2.2.2.2.2.1, y15.2.2.2.2.2.2.2.2.1, y15.2.2.2.2.2.2.2.2.2.1, y15.2.2.2.2.2.2.2.2.2.2.1, y15.2.2.2.2.2.2.2.2.2.2.2.1, y15.2.2.2.2.2.2.2.2.2.2.2.2.1, y15.2.2.2.2.2.2.2.2.2.2.2.2.2.1, y15.2.2.2.2.2.2.2.2.2.2.2.2.2.2.1, y15.2.2.2.2.2.2.2.2.2.2.2.2.2.2.2.1, y15.2.2.2.2.2.2.2.2.2.2.2.2.2.2.2.2.1, y15.2.2.2.2.2.2.2.2.2.2.2.2.2.2.2.2.2.1, y15.2.2.2.2.2.2.2.2.2.2.2.2.2.2.2.2.2.2.1, y15.2.2.2.2.2.2.2.2.2.2.2.2.2.2.2.2.2.2.2.1, y15.2.2.2.2.2.2.2.2.2.2.2.2.2.2.2.2.2.2.2.2.1] : List PyData))) fun (some_87 : List PyData) => (bnd (bnd (ret some_87) fun v99 => (bnd (bnd (bnd (ret x.1) fun p97 => (bnd (bnd (bnd (bnd (ret some_87) fun p90 => (bnd (ret ()) fun p91 => (ret (p90, p91)))) fun y89 => (ret (y89.1.length : Int))) fun p95 => (bnd (ret ()) fun p96 => (ret (p95, p96)))) fun p98 => (ret (p97, p98)))) fun p92 => (w__law_draw K cl p92)) fun v100 => (wIx v99 v100))) fun v101 => (ret (Flow.rt v101))))) none
abbrev sp__law_any_thing (K : PySem.W.Frag) (cl : Cl) : Sp := lift K (fun x : Addr × Unit => [kRef x.1]) kPy (w__law_any_thing K cl)
theorem ok__law_any_thing (T : Tx K mg cl) : FnG P w K mg base 2 T.a__law_any_thing T.fd__law_any_thing ["_law_pot_here"] (sp__law_any_thing K cl) :=
  okL T.F__law_any_thing sc__law_any_thing (fun _ => rfl) none (fun y e => nomatch e) (fun cdv A outer s H E hg hr => by
    refine ⟨_, pss_cons (ps_set (i := 1) sc__law_any_thing.nd rfl (by first | exact Or.inl rfl | exact Or.inr rfl) (pe_op (kx_add (K := K) rfl) (pe_op op_pow (pe_int) (pe_int)) (pe_fnS ((ok__law_draw T).atS hg (hr.mono (by decide)) (b__law_draw T) .nil (takes_of rfl rfl rfl rfl)) rfl T.g__law_draw T.F__law_draw.kp (pa_cons (pv 0) (pa_cons (pe_op op_pow (pe_int) (pe_int)) pa_nil)))))
    (pss_cons (ps_set (i := 2) sc__law_any_thing.nd rfl (by first | exact Or.inl rfl | exact Or.inr rfl) (pe_lst (pa_cons (pe_non) (pa_cons (pe_bl) (pa_cons (pe_bl) (pa_cons (pe_un un_neg (pe_int)) (pa_cons (pe_int) (pa_cons (pe_int) (pa_cons (pe_int) (pa_cons (pe_int) (pa_cons (pe_int) (pa_cons (pv 1) (pa_cons (pe_un un_neg (pv 1)) (pa_cons (pe_str) (pa_cons (pe_str) (pa_cons (pe_str) (pa_cons (pe_str) (pa_cons (pe_tup (pa_nil)) (pa_cons (pe_lst (pa_nil)) (pa_cons (pe_dnewK) (pa_cons (pe_lst (pa_cons (pe_int) pa_nil)) (pa_cons (pe_tup (pa_cons (pe_int) pa_nil)) (pa_cons (pe_disp (pps_cons (pe_int) (pe_int) (pps_nil)) (by rfl) (by rfl) (fun z => by cases z) (by decide)) pa_nil)))))))))))))))))))))))
    (pss_one (ps_ret (pe_ix (kx_ix (K := K) rfl) (pv 2) (pe_fnS ((ok__law_draw T).atS hg (hr.mono (by decide)) (b__law_draw T) .nil (takes_of rfl rfl rfl rfl)) rfl T.g__law_draw T.F__law_draw.kp (pa_cons (pv 0) (pa_cons (pe_callB (kx_len (K := K) rfl) (by rfl) T.z_len bt_len (pa_cons (pv 2) pa_nil)) pa_nil))) (fun _ _ => rfl))))), ?_⟩
    exact ⟨_, fun x => (simS_seq (simS_asg simG_name le_none (sim_op os_add (sim_op os_I sim_i sim_i) (sim_call (cal_lift (w := w__law_draw K cl)) (simA_cons (sim_var (i := 0) (r := kRef) (x := x.1) rfl) (simA_cons (sim_op os_I sim_i sim_i) simA_nil)))) (fun (far_14 : Int) => (show SimS _ _ ([some (kRef x.1), some (kI far_14), none] : Gm K) _ _ _ _ from (simS_seq (simS_asg simG_name le_none (sim_lstK (r := kPy) (fun y15 : PyData × PyData × PyData × PyData × PyData × PyData × PyData × PyData × PyData × PyData × PyData × PyData × PyData × PyData × PyData × PyData × PyData × PyData × PyData × PyData × PyData × Unit => ([y15.1, y15.2.1, y15.2.2.1, y15.2.2.2.1, y15.2.2.2.2.1, y15.2.2.2.2.2.1, y15.2.2.2.2.2.2.1, y15.2.2.2.2.2.2.2.1, y15.2.2.2.2.2.2.2.2.1, y15.2.2.2.2.2.2.2.2.2.1, y15.2.2.2.2.2.2.2.2.2.2.1, y15.2.2.2.2.2.2.2.2.2.2.2.1, y15.2.2.2.2.2.2.2.2.2.2.2.2.1, y15.2.2.2.2.2.2.2.2.2.2.2.2.2.1, y15.2.2.2.2.2.2.2.2.2.2.2.2.2.2.1, y15.2.2.2.2.2.2.2.2.2.2.2.2.2.2.2.1, y15.2.2.2.2.2.2.2.2.2.2.2.2.2.2.2.2.1, y15.2.2.2.2.2.2.2.2.2.2.2.2.2.2.2.2.2.1, y15.2.2.2.2.2.2.2.2.2.2.2.2.2.2.2.2.2.2.1, y15.2.2.2.2.2.2.2.2.2.2.2.2.2.2.2.2.2.2.2.1, y15.2.2.2.2.2.2.2.2.2.2.2.2.2.2.2.2.2.2.2.2.1] : List PyData)) (fun _ => rfl) (fun _ => (by decide : 21 ≤ 50000)) (simA_cons (sim_co sim_n co_N) (simA_cons (sim_co sim_b co_B) (simA_cons (sim_co sim_b co_B) (simA_cons (sim_co (sim_neg sim_i) co_I) (simA_cons (sim_co sim_i co_I) (simA_cons (sim_co sim_i co_I) (simA_cons (sim_co sim_i co_I) (simA_cons (sim_co sim_i co_I) (simA_cons (sim_co sim_i co_I) (simA_cons (sim_co (sim_var (i := 1) (r := kI) (x := far_14) rfl) co_I) (simA_cons (sim_co (sim_neg (sim_var (i := 1) (r := kI) (x := far_14) rfl)) co_I) (simA_cons (sim_co sim_s co_S) (simA_cons (sim_co sim_s co_S) (simA_cons (sim_co sim_s co_S) (simA_cons (sim_co sim_s co_S) (simA_cons (sim_co (sim_tupK (r := kPy) (fun y18 : Unit => ([] : List PyData)) (fun _ => rfl) (fun _ => (by decide : 0 ≤ 50000)) simA_nil) (co_TP co_id)) (simA_cons (sim_co (sim_lstK (r := kPy) (fun y19 : Unit => ([] : List PyData)) (fun _ => rfl) (fun _ => (by decide : 0 ≤ 50000)) simA_nil) (co_LP co_id)) (simA_cons sim_dnewP (simA_cons (sim_co (sim_lstK (r := kI) (fun y20 : Int × Unit => ([y20.1] : List Int)) (fun _ => rfl) (fun _ => (by decide : 1 ≤ 50000)) (simA_cons sim_i simA_nil)) (co_LP co_I)) (simA_cons (sim_co (sim_tupK (r := kI) (fun y23 : Int × Unit => ([y23.1] : List Int)) (fun _ => rfl) (fun _ => (by decide : 1 ≤ 50000)) (simA_cons sim_i simA_nil)) (co_TP co_I)) (simA_cons (sim_disp1P (k := (Sum.inl (1))) (v := .int (2)) (d := .int (2)) fun _ _ => by simp only [DatP]) simA_nil)))))))))))))))))))))) (fun (some_87 : List PyData) => (show SimS _ _ ([some (kRef x.1), some (kI far_14), some ((kL kPy) some_87)] : Gm K) _ _ _ _ from (simS_ret le_none (sim_op os_ixL (sim_var (i := 2) (r := (kL kPy)) (x := some_87) rfl) (sim_call (cal_lift (w := w__law_draw K cl)) (simA_cons (sim_var (i := 0) (r := kRef) (x := x.1) rfl) (simA_cons (sim_callB cb_lenL (simA_cons (sim_var (i := 2) (r := (kL kPy)) (x := some_87) rfl) simA_nil)) simA_nil))))))))))))), fun _ _ _ _ h => h⟩)
def w__law_one (K : PySem.W.Frag) (cl : Cl) : Addr × Unit → W K PyData := fun x => outW (bnd (bnd (bnd (bnd (bnd (bnd (ret x.1) fun p5 => (bnd (ret ()) fun p6 => (ret (p5, p6)))) fun p2 => (w__law_any_thing K cl p2)) fun p29 => (bnd (bnd (bnd (bnd (bnd (bnd (ret x.1) fun p12 => (bnd (bnd (ret (42 : Int)) fun p10 => (bnd (ret ()) fun p11 => (ret (p10, p11)))) fun p13 => (ret (p12, p13)))) fun p7 => (w__law_draw K cl p7)) fun v14 => (bnd (ret (1 : Int)) fun v15 => (ret (v14 - v15)))) fun v23 => (ret (PyData.int v23))) fun p27 => (bnd (bnd (bnd (bnd (bnd (ret x.1) fun p21 => (bnd (bnd (ret (4 : Int)) fun p19 => (bnd (ret ()) fun p20 => (ret (p19, p20)))) fun p22 => (ret (p21, p22)))) fun p16 => (w__law_draw K cl p16)) fun v24 => (ret (PyData.int v24))) fun p25 => (bnd (ret ()) fun p26 => (ret (p25, p26)))) fun p28 => (ret (p27, p28)))) fun p30 => (ret (p29, p30)))) fun y1 => (ret ([y1.1, y1.2.1, y1.2.2.1] : List PyData))) fun v39 => (bnd (bnd (bnd (ret x.1) fun p37 => (bnd (bnd (ret (3 : Int)) fun p35 => (bnd (ret ()) fun p36 => (ret (p35, p36)))) fun p38 => (ret (p37, p38)))) fun p32 => (w__law_draw K cl p32)) fun v40 => (wIx v39 v40))) fun v41 => (ret (Flow.rt v41))) none
abbrev sp__law_one (K : PySem.W.Frag) (cl : Cl) : Sp := lift K (fun x : Addr × Unit => [kRef x.1]) kPy (w__law_one K cl)
theorem ok__law_one (T : Tx K mg cl) : FnG P w K mg base 3 T.a__law_one T.fd__law_one ["_law_pot_here"] (sp__law_one K cl) :=
  okL T.F__law_one sc__law_one (fun _ => rfl) none (fun y e => nomatch e) (fun cdv A outer s H E hg hr => by
    refine ⟨_, pss_one (ps_ret (pe_ix (kx_ix (K := K) rfl) (pe_lst (pa_cons (pe_fnS ((ok__law_any_thing T).atS hg (hr.mono (by decide)) (b__law_any_thing T) .nil (takes_of rfl rfl rfl rfl)) rfl T.g__law_any_thing T.F__law_any_thing.kp (pa_cons (pv 0) pa_nil)) (pa_cons (pe_op op_sub (pe_fnS ((ok__law_draw T).atS hg (hr.mono (by decide)) (b__law_draw T) .nil (takes_of rfl rfl rfl rfl)) rfl T.g__law_draw T.F__law_draw.kp (pa_cons (pv 0) (pa_cons (pe_int) pa_nil))) (pe_int)) (pa_cons (pe_fnS ((ok__law_draw T).atS hg (hr.mono (by decide)) (b__law_draw T) .nil (takes_of rfl rfl rfl rfl)) rfl T.g__law_draw T.F__law_draw.kp (pa_cons (pv 0) (pa_cons (pe_int) pa_nil))) pa_nil)))) (pe_fnS ((ok__law_draw T).atS hg (hr.mono (by decide)) (b__law_draw T) .nil (takes_of rfl rfl rfl rfl)) rfl T.g__law_draw T.F__law_draw.kp (pa_cons (pv 0) (pa_cons (pe_int) pa_nil))) (fun _ _ => rfl))), ?_⟩
    exact ⟨_, fun x => (simS_ret le_none (sim_op os_ixL (sim_lstK (r := kPy) (fun y1 : PyData × PyData × PyData × Unit => ([y1.1, y1.2.1, y1.2.2.1] : List PyData)) (fun _ => rfl) (fun _ => (by decide : 3 ≤ 50000)) (simA_cons (sim_call (cal_lift (w := w__law_any_thing K cl)) (simA_cons (sim_var (i := 0) (r := kRef) (x := x.1) rfl) simA_nil)) (simA_cons (sim_co (sim_op os_I0 (sim_call (cal_lift (w := w__law_draw K cl)) (simA_cons (sim_var (i := 0) (r := kRef) (x := x.1) rfl) (simA_cons sim_i simA_nil))) sim_i) co_I) (simA_cons (sim_co (sim_call (cal_lift (w := w__law_draw K cl)) (simA_cons (sim_var (i := 0) (r := kRef) (x := x.1) rfl) (simA_cons sim_i simA_nil))) co_I) simA_nil)))) (sim_call (cal_lift (w := w__law_draw K cl)) (simA_cons (sim_var (i := 0) (r := kRef) (x := x.1) rfl) (simA_cons sim_i simA_nil))))), fun _ _ _ _ h => h⟩)
def w__law_is_int (K : PySem.W.Frag) (cl : Cl) : PyData × Int × Int × Unit → W K Bool := fun x => outW (bnd (bnd (bnd (bnd (ret x.1) fun p4 => (bnd (bnd (ret "int") fun p2 => (bnd (ret ()) fun p3 => (ret (p2, p3)))) fun p5 => (ret (p4, p5)))) fun y1 => (wAss (IsTy y1.2.1) (ret (isD y1.1 y1.2.1)))) fun v18 => (wIf v18 (bnd (bnd (bnd (bnd (ret x.1) fun p10 => (bnd (bnd (ret "bool") fun p8 => (bnd (ret ()) fun p9 => (ret (p8, p9)))) fun p11 => (ret (p10, p11)))) fun y7 => (wAss (IsTy y7.2.1) (ret (isD y7.1 y7.2.1)))) fun v6 => (ret (!v6))) fun v17 => (wIf v17 (bnd (ret x.2.1) fun v13 => (bnd (bnd (ret x.1) (wAs PyData.int)) fun v14 => (bnd (ret (decide (v13 ≤ v14))) fun v15 => (wIf v15 (bnd (ret x.2.2.1) fun v16 => (ret (decide (v14 ≤ v16)))) (ret false))))) (ret false))) (ret false))) fun v19 => (ret (Flow.rt v19))) none
abbrev sp__law_is_int (K : PySem.W.Frag) (cl : Cl) : Sp := lift K (fun x : PyData × Int × Int × Unit => [kPy x.1, kI x.2.1, kI x.2.2.1]) kB (w__law_is_int K cl)
theorem ok__law_is_int (T : Tx K mg cl) : FnG P w K mg base 1 T.a__law_is_int T.fd__law_is_int ["_law_item", "_law_low", "_law_high"] (sp__law_is_int K cl) :=
  okL T.F__law_is_int sc__law_is_int (fun _ => rfl) none (fun y e => nomatch e) (fun cdv A outer s H E hg hr => by
    refine ⟨_, pss_one (ps_ret (pe_and (pe_callB (kx_isi (K := K) rfl) (by rfl) T.z_isinstance bt_isinstance (pa_cons (pv 0) (pa_cons (pe_bltn (v := .ty "int") (by rfl) T.z_int bt_int rfl) pa_nil))) (pe_and (pe_not (pe_callB (kx_isi (K := K) rfl) (by rfl) T.z_isinstance bt_isinstance (pa_cons (pv 0) (pa_cons (pe_bltn (v := .ty "bool") (by rfl) T.z_bool bt_bool rfl) pa_nil)))) (pe_one (pe_chain op_le op_le (pv 1) (pv 0) (pv 2)))))), ?_⟩
    exact ⟨_, fun x => (simS_ret le_none (sim_andV (sim_callB cb_isi (simA_cons (sim_var (i := 0) (r := kPy) (x := x.1) rfl) (simA_cons (sim_ty (T := "int")) simA_nil))) (sim_andV (sim_notV (sim_callB cb_isi (simA_cons (sim_var (i := 0) (r := kPy) (x := x.1) rfl) (simA_cons (sim_ty (T := "bool")) simA_nil)))) (sim_chain os_B0 os_B0 (sim_var (i := 1) (r := kI) (x := x.2.1) rfl) (sim_as oc_I (sim_var (i := 0) (r := kPy) (x := x.1) rfl)) (sim_var (i := 2) (r := kI) (x := x.2.2.1) rfl))))), fun _ _ _ _ h => h⟩)
def w_cells_in (K : PySem.W.Frag) (cl : Cl) : Int × Unit → W K (List Int) := fun x => outW (bnd (bnd (bnd (bnd (bnd (bnd (bnd (ret x.1) fun v2 => (ret ((Builtin.Int.intBits v2 : Nat) : Int))) fun p4 => (bnd (ret ()) fun p5 => (ret (p4, p5)))) fun y1 => (wAss (-(2 ^ 62) ≤ y1.1 ∧ y1.1 < 2 ^ 62) (ret (rng 0 y1.1, nI)))) fun y7 => (wAss (y7.1.length ≤ 50000) (wCalm (fmapW y7.2 (fun (x6 : Int) => (bnd (bnd (bnd (ret x.1) fun v8 => (bnd (ret x6) fun v9 => (wAss (0 ≤ v9) (ret (v8 / 2 ^ (v9).toNat))))) fun v10 => (bnd (ret (1 : Int)) fun v11 => (ret (Builtin.bitAnd v10 v11)))) fun v12 => (bnd (ret (1 : Int)) fun v13 => (ret (decide (v12 = v13)))))) (fun (x6 : Int) => (ret x6)) y7.1)))) fun p15 => (bnd (ret ()) fun p16 => (ret (p15, p16)))) fun y14 => (ret y14.1)) fun v17 => (ret (Flow.rt v17))) none
abbrev sp_cells_in (K : PySem.W.Frag) (cl : Cl) : Sp := lift K (fun x : Int × Unit => [kI x.1]) (kX kI) (w_cells_in K cl)
theorem ok_cells_in (T : Tx K mg cl) : FnG P w K mg base 1 T.a_cells_in T.fd_cells_in ["mask"] (sp_cells_in K cl) :=
  okL T.F_cells_in sc_cells_in (fun _ => rfl) none (fun y e => nomatch e) (fun cdv A outer s H E hg hr => by
    refine ⟨_, pss_one (ps_ret (pe_callTy (kx_tuple (K := K) rfl) (by rfl) T.z_tuple bt_tuple (pa_cons (pe_lc (own := [("cell", 1)]) (g := gName 1)  rfl sc_cells_in.nd (pi_range1 rfl T.z_range (pa_cons (pe_bits (pv 0)) pa_nil)) (blkOk_by (own := [("cell", 1)]) (N := N_cells_in) (sc := defScope st_cells_in) (by decide +kernel)) (fun _ _ _ _ _ => pg_name (i := 1) sc_cells_in.nd rfl (by first | exact Or.inl rfl | exact Or.inr rfl)) (fun _ _ _ _ _ => pts_one (pt_cmpR (kx_eq (K := K) rfl hr) (pe_op op_and (pe_op op_shr (pv 0) (pv 1)) (pe_int)) (pe_int) (nomark _))) (fun _ _ _ _ _ => pv 1)) pa_nil))), ?_⟩
    exact ⟨_, fun x => (simS_ret le_none (sim_callB cb_tupleLX (simA_cons (sim_lc (simI_r1 (simA_cons (sim_bits (sim_var (i := 0) (r := kI) (x := x.1) rfl)) simA_nil)) simG_name (fun _ _ hy => hy) (fun (x6 : Int) => (simB_test (sim_op os_eqI (sim_op os_I0 (sim_op os_I (sim_var (i := 0) (r := kI) (x := x.1) rfl) (sim_var (i := 1) (r := kI) (x := x6) rfl)) sim_i) sim_i))) (fun (x6 : Int) => (sim_var (i := 1) (r := kI) (x := x6) rfl))) simA_nil))), fun _ _ _ _ h => h⟩)
def w_Flip__toggled (K : PySem.W.Frag) (cl : Cl) : (Nat × Nat) × Unit → W K (List Int) := fun x => outW (bnd (bnd (bnd (bnd (bnd (ret x.1) fun x => ret (x.2 : Int)) fun p4 => (bnd (ret ()) fun p5 => (ret (p4, p5)))) fun p1 => (w_cells_in K cl p1)) fun v6 => (ret v6)) fun v7 => (ret (Flow.rt v7))) none
abbrev sp_Flip__toggled (K : PySem.W.Frag) (cl : Cl) : Sp := lift K (fun x : (Nat × Nat) × Unit => [(k_Flip K cl) x.1]) (kT kI) (w_Flip__toggled K cl)
theorem ok_Flip__toggled (T : Tx K mg cl) : FnG P w K mg base 2 T.a_Flip__toggled T.fd_Flip__toggled ["self"] (sp_Flip__toggled K cl) :=
  okL T.F_Flip__toggled sc_Flip__toggled (fun _ => rfl) none (fun y e => nomatch e) (fun cdv A outer s H E hg hr => by
    refine ⟨_, pss_one (ps_ret (pe_fnS ((ok_cells_in T).atS hg (hr.mono (by decide)) (b_cells_in T) .nil (takes_of rfl rfl rfl rfl)) rfl T.g_cells_in T.F_cells_in.kp (pa_cons (pe_fldK (K := K) rfl (pv 0)) pa_nil))), ?_⟩
    exact ⟨_, fun x => (simS_ret le_none (sim_co (sim_call (cal_lift (w := w_cells_in K cl)) (simA_cons (sim_fld (fs := fs_Flip K cl) (s := kI) (fun x => (x.2 : Int)) (fun _ => rfl) (fun _ => fl_Flip_toggle_mask) T.cls_Flip T.no_Flip_toggle_mask (sim_var (i := 0) (r := (k_Flip K cl)) (x := x.1) rfl)) simA_nil)) co_XT)), fun _ _ _ _ h => h⟩)
def w_Flip__tested (K : PySem.W.Frag) (cl : Cl) : (Nat × Nat) × Unit → W K (List Int) := fun x => outW (bnd (bnd (bnd (bnd (bnd (ret x.1) fun x => ret (x.1 : Int)) fun p4 => (bnd (ret ()) fun p5 => (ret (p4, p5)))) fun p1 => (w_cells_in K cl p1)) fun v6 => (ret v6)) fun v7 => (ret (Flow.rt v7))) none
abbrev sp_Flip__tested (K : PySem.W.Frag) (cl : Cl) : Sp := lift K (fun x : (Nat × Nat) × Unit => [(k_Flip K cl) x.1]) (kT kI) (w_Flip__tested K cl)
theorem ok_Flip__tested (T : Tx K mg cl) : FnG P w K mg base 2 T.a_Flip__tested T.fd_Flip__tested ["self"] (sp_Flip__tested K cl) :=
  okL T.F_Flip__tested sc_Flip__tested (fun _ => rfl) none (fun y e => nomatch e) (fun cdv A outer s H E hg hr => by
    refine ⟨_, pss_one (ps_ret (pe_fnS ((ok_cells_in T).atS hg (hr.mono (by decide)) (b_cells_in T) .nil (takes_of rfl rfl rfl rfl)) rfl T.g_cells_in T.F_cells_in.kp (pa_cons (pe_fldK (K := K) rfl (pv 0)) pa_nil))), ?_⟩
    exact ⟨_, fun x => (simS_ret le_none (sim_co (sim_call (cal_lift (w := w_cells_in K cl)) (simA_cons (sim_fld (fs := fs_Flip K cl) (s := kI) (fun x => (x.1 : Int)) (fun _ => rfl) (fun _ => fl_Flip_test_mask) T.cls_Flip T.no_Flip_test_mask (sim_var (i := 0) (r := (k_Flip K cl)) (x := x.1) rfl)) simA_nil)) co_XT)), fun _ _ _ _ h => h⟩)
def w__law_met (K : PySem.W.Frag) (cl : Cl) (m_ : W K (Nat × Nat)) : Unit × Unit → W K (List PyData) := fun x => outW (bnd (bnd (bnd (bnd (ret ("other" : Str)) fun v2 => (ret (PyData.str v2))) fun p3 => (bnd (ret ()) fun p4 => (ret (p3, p4)))) fun y1 => (ret ([y1.1] : List PyData))) fun (told_5 : List PyData) => (bnd (wTry (bnd m_ fun (flip_7 : (Nat × Nat)) => (bnd (bnd (bnd (bnd (ret ("flip" : Str)) fun v15 => (ret (PyData.str v15))) fun p22 => (bnd (bnd (bnd (bnd (ret flip_7) fun p11 => (wRcv (fun _ => True) (bnd (ret ()) fun p9 => (w_Flip__tested K cl (p11, p9))))) fun v16 => (ret ((fun xs => PyData.tuple (xs.map PyData.int)) v16))) fun p20 => (bnd (bnd (bnd (bnd (ret flip_7) fun p14 => (wRcv (fun _ => True) (bnd (ret ()) fun p12 => (w_Flip__toggled K cl (p14, p12))))) fun v17 => (ret ((fun xs => PyData.tuple (xs.map PyData.int)) v17))) fun p18 => (bnd (ret ()) fun p19 => (ret (p18, p19)))) fun p21 => (ret (p20, p21)))) fun p23 => (ret (p22, p23)))) fun y8 => (ret ([y8.1, y8.2.1, y8.2.2.1] : List PyData))) fun (told_24 : List PyData) => (ret (Flow.nx (told_24, ()))))) (wCatch cl.NoCell (fun e25 => (bnd (bnd (bnd (bnd (ret ("cell" : Str)) fun v44 => (ret (PyData.str v44))) fun p50 => (bnd (bnd (bnd (ret e25) (wXf (C := cl.NoCell) "cell" kPy)) fun p48 => (bnd (bnd (bnd (bnd (bnd (bnd (ret e25) fun p30 => (bnd (bnd (ret (Value.ref cl.CellError)) fun p28 => (bnd (ret ()) fun p29 => (ret (p28, p29)))) fun p31 => (ret (p30, p31)))) fun y27 => (wIsE y27.1 y27.2.1)) fun v43 => (wIf v43 (bnd (bnd (bnd (ret e25) fun p41 => (bnd (bnd (bnd (bnd (ret (Value.ref cl.NoCells)) fun p36 => (bnd (bnd (ret (Value.ref cl.NoFlip)) fun p34 => (bnd (ret ()) fun p35 => (ret (p34, p35)))) fun p37 => (ret (p36, p37)))) fun y33 => (ret ([y33.1, y33.2.1] : List Value))) fun p39 => (bnd (ret ()) fun p40 => (ret (p39, p40)))) fun p42 => (ret (p41, p42)))) fun y38 => (wIsEs y38.1 y38.2.1)) fun v32 => (ret (!v32))) (ret false))) fun v45 => (ret (PyData.bool v45))) fun p46 => (bnd (ret ()) fun p47 => (ret (p46, p47)))) fun p49 => (ret (p48, p49)))) fun p51 => (ret (p50, p51)))) fun y26 => (ret ([y26.1, y26.2.1, y26.2.2.1] : List PyData))) fun (told_52 : List PyData) => (ret (Flow.nx (told_52, ()))))) wRaise)) (aftT fun (s6 : (List PyData) × Unit) => (bnd (ret s6.1) fun v53 => (ret (Flow.rt v53)))))) none
theorem ok__law_met (T : Tx K mg cl) : GivesT P w K mg T.lb 3 T.a__law_met "_law_met" st__law_met N__law_met "_law_call" (ttF (kL kPy) (k_Flip K cl) fun m => w__law_met K cl m ((), ())) :=
  givesF (fun cdv A outer s H f c' q tl hg hr act => by
    refine ⟨_, pss_cons (ps_set (i := 1) sc__law_met.nd rfl (by first | exact Or.inl rfl | exact Or.inr rfl) (pe_lst (pa_cons (pe_str) pa_nil)))
    (pss_cons (ps_try_clauses rfl rfl sc__law_met.nd (takes_of rfl rfl rfl rfl)
      (fun W pn xe tk _ => pss_cons (ps_set (i := 3) sc__law_met.nd rfl (by first | exact Or.inl rfl | exact Or.inr rfl) ((act _ _ _ _ _ tk)))
    (pss_one (ps_set (i := 1) sc__law_met.nd rfl (by first | exact Or.inl rfl | exact Or.inr rfl) (pe_lst (pa_cons (pe_str) (pa_cons (pe_mS0 ((ok_Flip__tested T).atS hg (hr.mono (by decide)) (b_Flip__tested T) .nil tk) T.cls_Flip T.m_Flip__tested (pv 3)) (pa_cons (pe_mS0 ((ok_Flip__toggled T).atS hg (hr.mono (by decide)) (b_Flip__toggled T) .nil tk) T.cls_Flip T.m_Flip__toggled (pv 3)) pa_nil)))))))
      (.cons (i := 2) rfl rfl ⟨rfl, by decide, Or.inl T.e_NoCell.gC⟩ (fun a oe cls d pn hz hf => pss_one (ps_set (i := 1) sc__law_met.nd rfl (by first | exact Or.inl rfl | exact Or.inr rfl) (pe_lst (pa_cons (pe_str) (pa_cons (pe_xf T.q_NoCell.xf (T.e_NoCell.noF _ (by simp)) hz hf (pv 2)) (pa_cons (pe_and (pe_callB (call_isErr hz hf) (by rfl) T.z_isinstance bt_isinstance (pa_cons (pv 2) (pa_cons (pe_glob (v := .ref cl.CellError) rfl T.g_CellError rfl) pa_nil))) (pe_one (pe_not (pe_callB (call_isErr hz hf) (by rfl) T.z_isinstance bt_isinstance (pa_cons (pv 2) (pa_cons (pe_tup (pa_cons (pe_glob (v := .ref cl.NoCells) rfl T.e_NoCells.gC rfl) (pa_cons (pe_glob (v := .ref cl.NoFlip) rfl T.e_NoFlip.gC rfl) pa_nil))) pa_nil)))))) pa_nil)))))) .nil))
    (pss_one (ps_ret (pv 1)))), ?_⟩
    exact fun Pc st m_ hl => ⟨_, (simS_seq (simS_asg simG_name le_none (sim_lstK (r := kPy) (fun y1 : PyData × Unit => ([y1.1] : List PyData)) (fun _ => rfl) (fun _ => (by decide : 1 ≤ 50000)) (simA_cons (sim_co sim_s co_S) simA_nil)) (fun (told_5 : List PyData) => (show SimS _ _ ([some ((kLam f c' q Pc st) ()), some ((kL kPy) told_5), none, none] : Gm K) _ _ _ _ from (simS_seq (simS_try (Gc := [some ((kLam f c' q Pc st) ()), none, none, none]) (G1 := (fun s6 : (List PyData) × Unit => ([some ((kLam f c' q Pc st) ()), some ((kL kPy) s6.1), none, none] : Gm K))) (fun ε' => (simS_seq (simS_asg (simG_name (i := 3) (r := (k_Flip K cl))) (.so (.no (.no (.no .nil)))) (sim_tcall (i := 0) hl rfl) (fun (flip_7 : (Nat × Nat)) => (show SimS _ (some ([some ((kLam f c' q Pc st) ()), none, none, none] : Gm K)) ([some ((kLam f c' q Pc st) ()), some ((kL kPy) told_5), none, some ((k_Flip K cl) flip_7)] : Gm K) _ _ _ _ from (simS_asg (simG_name (i := 1) (r := (kL kPy))) (.so (.no (.no (.no .nil)))) (sim_lstK (r := kPy) (fun y8 : PyData × PyData × PyData × Unit => ([y8.1, y8.2.1, y8.2.2.1] : List PyData)) (fun _ => rfl) (fun _ => (by decide : 3 ≤ 50000)) (simA_cons (sim_co sim_s co_S) (simA_cons (sim_co (sim_ms (cal_lift (w := w_Flip__tested K cl)) (rc_Flip_tested (cl := cl)) (sim_var (i := 3) (r := (k_Flip K cl)) (x := flip_7) rfl) simA_nil) (co_TP co_I)) (simA_cons (sim_co (sim_ms (cal_lift (w := w_Flip__toggled K cl)) (rc_Flip_toggled (cl := cl)) (sim_var (i := 3) (r := (k_Flip K cl)) (x := flip_7) rfl) simA_nil) (co_TP co_I)) simA_nil)))) (fun (told_24 : List PyData) => (show SimS _ (some ([some ((kLam f c' q Pc st) ()), none, none, none] : Gm K)) ([some ((kLam f c' q Pc st) ()), some ((kL kPy) told_24), none, some ((k_Flip K cl) flip_7)] : Gm K) _ _ _ _ from (simS_end (s := ((told_24, ()) : (List PyData) × Unit)) (.so (.so (.no (.no .nil))))))))))))) (SimC.cons (i := 2) (Gs := (fun s6 : (List PyData) × Unit => ([some ((kLam f c' q Pc st) ()), some ((kL kPy) s6.1), none, none] : Gm K))) (fun a k d e25 => (show SimS _ _ ([some ((kLam f c' q Pc st) ()), none, some (kErr a k d e25), none] : Gm K) _ _ _ _ from (simS_asg simG_name le_none (sim_lstK (r := kPy) (fun y26 : PyData × PyData × PyData × Unit => ([y26.1, y26.2.1, y26.2.2.1] : List PyData)) (fun _ => rfl) (fun _ => (by decide : 3 ≤ 50000)) (simA_cons (sim_co sim_s co_S) (simA_cons (sim_xf (r := kPy) (sim_var (i := 2) (r := kErr a k d) (x := e25) rfl)) (simA_cons (sim_co (sim_andV (sim_callB cb_isE (simA_cons (sim_var (i := 2) (r := (kErr a k d)) (x := e25) rfl) (simA_cons (sim_clsR (C := cl.CellError)) simA_nil))) (sim_notV (sim_callB cb_isEs (simA_cons (sim_var (i := 2) (r := (kErr a k d)) (x := e25) rfl) (simA_cons (sim_tupX (r := kCls) (fun y33 : Value × Value × Unit => ([y33.1, y33.2.1] : List Value)) (fun _ => rfl) (fun _ => (by decide : 2 ≤ 50000)) (simA_cons (sim_clsR (C := cl.NoCells)) (simA_cons (sim_clsR (C := cl.NoFlip)) simA_nil))) simA_nil))))) co_B) simA_nil)))) (fun (told_52 : List PyData) => (show SimS _ _ ([some ((kLam f c' q Pc st) ()), some ((kL kPy) told_52), some (kErr a k d e25), none] : Gm K) _ _ _ _ from (simS_end (s := ((told_52, ()) : (List PyData) × Unit)) (.so (.so (.no (.no .nil)))))))))) (fun _ => (.so (.so (.no (.no .nil))))) (.nil le_none)) (fun (s6 : (List PyData) × Unit) => (show SimS _ _ ([some ((kLam f c' q Pc st) ()), some ((kL kPy) s6.1), none, none] : Gm K) _ _ _ _ from (simS_ret le_none (sim_var (i := 1) (r := (kL kPy)) (x := s6.1) rfl)))))))))), fun _ _ _ h => h⟩)
def w_is_integer_in (K : PySem.W.Frag) (cl : Cl) : PyData × Int × Int × Unit → W K Bool := fun x => outW (bnd (bnd (bnd (bnd (ret x.1) fun p4 => (bnd (bnd (ret "int") fun p2 => (bnd (ret ()) fun p3 => (ret (p2, p3)))) fun p5 => (ret (p4, p5)))) fun y1 => (wAss (IsTy y1.2.1) (ret (isD y1.1 y1.2.1)))) fun v18 => (wIf v18 (bnd (bnd (bnd (bnd (ret x.1) fun p10 => (bnd (bnd (ret "bool") fun p8 => (bnd (ret ()) fun p9 => (ret (p8, p9)))) fun p11 => (ret (p10, p11)))) fun y7 => (wAss (IsTy y7.2.1) (ret (isD y7.1 y7.2.1)))) fun v6 => (ret (!v6))) fun v17 => (wIf v17 (bnd (ret x.2.1) fun v13 => (bnd (bnd (ret x.1) (wAs PyData.int)) fun v14 => (bnd (ret (decide (v13 ≤ v14))) fun v15 => (wIf v15 (bnd (ret x.2.2.1) fun v16 => (ret (decide (v14 ≤ v16)))) (ret false))))) (ret false))) (ret false))) fun v19 => (ret (Flow.rt v19))) none
abbrev sp_is_integer_in (K : PySem.W.Frag) (cl : Cl) : Sp := lift K (fun x : PyData × Int × Int × Unit => [kPy x.1, kI x.2.1, kI x.2.2.1]) kB (w_is_integer_in K cl)
theorem ok_is_integer_in (T : Tx K mg cl) : FnG P w K mg base 1 T.a_is_integer_in T.fd_is_integer_in ["thing", "low", "high"] (sp_is_integer_in K cl) :=
  okL T.F_is_integer_in sc_is_integer_in (fun _ => rfl) none (fun y e => nomatch e) (fun cdv A outer s H E hg hr => by
    refine ⟨_, pss_one (ps_ret (pe_and (pe_callB (kx_isi (K := K) rfl) (by rfl) T.z_isinstance bt_isinstance (pa_cons (pv 0) (pa_cons (pe_bltn (v := .ty "int") (by rfl) T.z_int bt_int rfl) pa_nil))) (pe_and (pe_not (pe_callB (kx_isi (K := K) rfl) (by rfl) T.z_isinstance bt_isinstance (pa_cons (pv 0) (pa_cons (pe_bltn (v := .ty "bool") (by rfl) T.z_bool bt_bool rfl) pa_nil)))) (pe_one (pe_chain op_le op_le (pv 1) (pv 0) (pv 2)))))), ?_⟩
    exact ⟨_, fun x => (simS_ret le_none (sim_andV (sim_callB cb_isi (simA_cons (sim_var (i := 0) (r := kPy) (x := x.1) rfl) (simA_cons (sim_ty (T := "int")) simA_nil))) (sim_andV (sim_notV (sim_callB cb_isi (simA_cons (sim_var (i := 0) (r := kPy) (x := x.1) rfl) (simA_cons (sim_ty (T := "bool")) simA_nil)))) (sim_chain os_B0 os_B0 (sim_var (i := 1) (r := kI) (x := x.2.1) rfl) (sim_as oc_I (sim_var (i := 0) (r := kPy) (x := x.1) rfl)) (sim_var (i := 2) (r := kI) (x := x.2.2.1) rfl))))), fun _ _ _ _ h => h⟩)
def w_require_cell (K : PySem.W.Frag) (cl : Cl) : PyData × Int × Int × Unit → W K Unit := fun x => outW (bnd (bnd (bnd (bnd (ret x.1) fun p10 => (bnd (bnd (ret x.2.1) fun p8 => (bnd (bnd (bnd (ret x.2.2.1) fun v1 => (bnd (ret (1 : Int)) fun v2 => (ret (v1 - v2)))) fun p6 => (bnd (ret ()) fun p7 => (ret (p6, p7)))) fun p9 => (ret (p8, p9)))) fun p11 => (ret (p10, p11)))) fun p3 => (w_is_integer_in K cl p3)) fun v12 => (ret (!v12))) fun v15 => (wIf v15 (bnd (bnd (ret x.1) fun p13 => (bnd (ret ()) fun p14 => (ret (p13, p14)))) fun (y : PyData × Unit) => (wRaise (cl.NoCell, [("cell", kPy y.1)]))) (ret (Flow.nx ())))) (some ())
abbrev sp_require_cell (K : PySem.W.Frag) (cl : Cl) : Sp := lift K (fun x : PyData × Int × Int × Unit => [kPy x.1, kI x.2.1, kI x.2.2.1]) kN (w_require_cell K cl)
theorem ok_require_cell (T : Tx K mg cl) : FnG P w K mg base 2 T.a_require_cell T.fd_require_cell ["cell", "low", "size"] (sp_require_cell K cl) :=
  okL T.F_require_cell sc_require_cell (fun _ => rfl) (some ()) (fun y e => by cases e; rfl) (fun cdv A outer s H E hg hr => by
    refine ⟨_, pss_one (ps_if (pt_not (pt_val (pe_fnS ((ok_is_integer_in T).atS hg (hr.mono (by decide)) (b_is_integer_in T) .nil (takes_of rfl rfl rfl rfl)) rfl T.g_is_integer_in T.F_is_integer_in.kp (pa_cons (pv 0) (pa_cons (pv 1) (pa_cons (pe_op op_sub (pv 2) (pe_int)) pa_nil)))))) (pss_one (ps_err (k := 0) rfl T.e_NoCell er_rel1 (hr.mono (by decide)) (takes_of rfl rfl rfl rfl) (pa_cons (pv 0) pa_nil) rfl)) pss_nil), ?_⟩
    exact ⟨_, fun x => (simS_if le_none (simB_not (simB_B (sim_call (cal_lift (w := w_is_integer_in K cl)) (simA_cons (sim_var (i := 0) (r := kPy) (x := x.1) rfl) (simA_cons (sim_var (i := 1) (r := kI) (x := x.2.1) rfl) (simA_cons (sim_op os_I0 (sim_var (i := 2) (r := kI) (x := x.2.2.1) rfl) sim_i) simA_nil)))))) (simS_raise le_none (simA_cons (sim_var (i := 0) (r := kPy) (x := x.1) rfl) simA_nil) (fun (y : PyData × Unit) => [("cell", kPy y.1)]) (by rintro y Z H vs ⟨v, _, rfl, h, rfl⟩; exact ⟨v, [], rfl, rfl, v, [], rfl, h, rfl⟩)) (simS_next (simS_end (.no (.no (.no .nil)))))), fun _ _ _ _ h => h⟩)
def w_mask_of (K : PySem.W.Frag) (cl : Cl) : (List Int) × Unit → W K Int := fun x => outW (bnd (bnd (bnd (bnd (bnd (ret x.1) fun y1 => (ret (y1, nI))) fun y3 => (wAss (y3.1.length ≤ 50000) (wCalm (fmapW y3.2 (fun (x2 : Int) => (ret true)) (fun (x2 : Int) => (bnd (ret (1 : Int)) fun v4 => (bnd (ret x2) fun v5 => (wAss (CPow v4 v5) (ret (v4 * 2 ^ (v5).toNat)))))) y3.1)))) fun p7 => (bnd (ret ()) fun p8 => (ret (p7, p8)))) fun y6 => (ret y6.1.sum)) fun v9 => (ret (Flow.rt v9))) none
abbrev sp_mask_of (K : PySem.W.Frag) (cl : Cl) : Sp := lift K (fun x : (List Int) × Unit => [(kT kI) x.1]) kI (w_mask_of K cl)
theorem ok_mask_of (T : Tx K mg cl) : FnG P w K mg base 1 T.a_mask_of T.fd_mask_of ["cells"] (sp_mask_of K cl) :=
  okL T.F_mask_of sc_mask_of (fun _ => rfl) none (fun y e => nomatch e) (fun cdv A outer s H E hg hr => by
    refine ⟨_, pss_one (ps_ret (pe_callB (kx_sum (K := K) rfl rfl) (by rfl) T.z_sum bt_sum (pa_cons (pe_lc (own := [("cell", 1)]) (g := gName 1) (tt := tYes)  rfl sc_mask_of.nd (pi_tupK rfl (pv 0)) (blkOk_by (own := [("cell", 1)]) (N := N_mask_of) (sc := defScope st_mask_of) (by decide +kernel)) (fun _ _ _ _ _ => pg_name (i := 1) sc_mask_of.nd rfl (by first | exact Or.inl rfl | exact Or.inr rfl)) (fun _ _ _ _ _ => pts_nil) (fun _ _ _ _ _ => pe_op op_shl (pe_int) (pv 1))) pa_nil))), ?_⟩
    exact ⟨_, fun x => (simS_ret le_none (sim_callB cb_sum (simA_cons (sim_lc (simI_tup (r := kI) (sim_var (i := 0) (r := (kT kI)) (x := x.1) rfl)) simG_name (fun _ _ hy => hy) (fun (x2 : Int) => simB_yes) (fun (x2 : Int) => (sim_op os_I sim_i (sim_var (i := 1) (r := kI) (x := x2) rfl)))) simA_nil))), fun _ _ _ _ h => h⟩)
def w_is_cell (K : PySem.W.Frag) (cl : Cl) : PyData × Int × Unit → W K Bool := fun x => outW (bnd (bnd (bnd (ret x.1) fun p10 => (bnd (bnd (ret (0 : Int)) fun p8 => (bnd (bnd (bnd (ret x.2.1) fun v1 => (bnd (ret (1 : Int)) fun v2 => (ret (v1 - v2)))) fun p6 => (bnd (ret ()) fun p7 => (ret (p6, p7)))) fun p9 => (ret (p8, p9)))) fun p11 => (ret (p10, p11)))) fun p3 => (w_is_integer_in K cl p3)) fun v12 => (ret (Flow.rt v12))) none
abbrev sp_is_cell (K : PySem.W.Frag) (cl : Cl) : Sp := lift K (fun x : PyData × Int × Unit => [kPy x.1, kI x.2.1]) kB (w_is_cell K cl)
theorem ok_is_cell (T : Tx K mg cl) : FnG P w K mg base 2 T.a_is_cell T.fd_is_cell ["thing", "size"] (sp_is_cell K cl) :=
  okL T.F_is_cell sc_is_cell (fun _ => rfl) none (fun y e => nomatch e) (fun cdv A outer s H E hg hr => by
    refine ⟨_, pss_one (ps_ret (pe_fnS ((ok_is_integer_in T).atS hg (hr.mono (by decide)) (b_is_integer_in T) .nil (takes_of rfl rfl rfl rfl)) rfl T.g_is_integer_in T.F_is_integer_in.kp (pa_cons (pv 0) (pa_cons (pe_int) (pa_cons (pe_op op_sub (pv 1) (pe_int)) pa_nil))))), ?_⟩
    exact ⟨_, fun x => (simS_ret le_none (sim_call (cal_lift (w := w_is_integer_in K cl)) (simA_cons (sim_var (i := 0) (r := kPy) (x := x.1) rfl) (simA_cons sim_i (simA_cons (sim_op os_I0 (sim_var (i := 1) (r := kI) (x := x.2.1) rfl) sim_i) simA_nil))))), fun _ _ _ _ h => h⟩)
def w_cell_tuple (K : PySem.W.Frag) (cl : Cl) : PyData × Int × Unit → W K (List Int) := fun x => outW (bnd (bnd (bnd (bnd (bnd (ret x.1) fun p14 => (bnd (bnd (bnd (bnd (ret "list") fun p9 => (bnd (bnd (ret "tuple") fun p7 => (bnd (ret ()) fun p8 => (ret (p7, p8)))) fun p10 => (ret (p9, p10)))) fun y6 => (ret (y6.1, y6.2.1))) fun p12 => (bnd (ret ()) fun p13 => (ret (p12, p13)))) fun p15 => (ret (p14, p15)))) fun y11 => (wAss (y11.2.1 = ("list", "tuple")) (ret (isD y11.1 "list" || isD y11.1 "tuple")))) fun v16 => (ret (!v16))) fun v31 => (wIf v31 (ret true) (bnd (bnd (bnd (bnd (wSeq x.1 fun xs => ret (xs, nI)) fun y19 => (wAss (y19.1.length ≤ 50000) (wCalm (fmapW y19.2 (fun (x18 : PyData) => (ret true)) (fun (x18 : PyData) => (bnd (bnd (ret x18) fun p23 => (bnd (ret ()) fun p24 => (ret (p23, p24)))) fun p20 => (bnd (bnd (ret x.2.1) fun p25 => (bnd (ret ()) fun p26 => (ret (p25, p26)))) fun p21 => (w_is_cell K cl ((fun (x : PyData × Unit) (y : Int × Unit) => (x.1, y.1, ())) p20 p21))))) y19.1)))) fun p28 => (bnd (ret ()) fun p29 => (ret (p28, p29)))) fun y27 => (ret (y27.1.all id))) fun v30 => (ret (!v30))))) fun v62 => (wIf v62 (bnd (bnd (ret x.1) fun p32 => (bnd (ret ()) fun p33 => (ret (p32, p33)))) fun (y : PyData × Unit) => (wRaise (cl.NoCells, [("cells", kPy y.1)]))) (bnd (bnd (bnd (ret x.1) fun p35 => (bnd (ret ()) fun p36 => (ret (p35, p36)))) fun y34 => (wSortPy y34.1)) fun (found_37 : List Int) => (bnd (bnd (bnd (bnd (bnd (bnd (bnd (ret found_37) fun p45 => (bnd (bnd (bnd (ret found_37) fun v39 => (bnd (bnd (ret (1 : Int)) fun v40 => (ret (some v40))) fun v41 => (bnd (ret none) fun v42 => (ret (sli v39 v41 v42))))) fun p43 => (bnd (ret ()) fun p44 => (ret (p43, p44)))) fun p46 => (ret (p45, p46)))) fun y38 => (ret (y38.1.zip y38.2.1, nI))) fun y48 => (wAss (y48.1.length ≤ 50000) (wCalm (fmapW y48.2 (fun (x47 : (Int × Int)) => (ret true)) (fun (x47 : (Int × Int)) => (bnd (ret x47.1) fun v49 => (bnd (ret x47.2) fun v50 => (ret (decide (v49 < v50)))))) y48.1)))) fun p52 => (bnd (ret ()) fun p53 => (ret (p52, p53)))) fun y51 => (ret (y51.1.all id))) fun v54 => (ret (!v54))) fun v61 => (wIf v61 (bnd (bnd (ret x.1) fun p55 => (bnd (ret ()) fun p56 => (ret (p55, p56)))) fun (y : PyData × Unit) => (wRaise (cl.NoCells, [("cells", kPy y.1)]))) (bnd (bnd (bnd (ret found_37) fun p58 => (bnd (ret ()) fun p59 => (ret (p58, p59)))) fun y57 => (ret y57.1)) fun v60 => (ret (Flow.rt v60)))))))) none
abbrev sp_cell_tuple (K : PySem.W.Frag) (cl : Cl) : Sp := lift K (fun x : PyData × Int × Unit => [kPy x.1, kI x.2.1]) (kT kI) (w_cell_tuple K cl)
theorem ok_cell_tuple (T : Tx K mg cl) : FnG P w K mg base 3 T.a_cell_tuple T.fd_cell_tuple ["things", "size"] (sp_cell_tuple K cl) :=
  okL T.F_cell_tuple sc_cell_tuple (fun _ => rfl) none (fun y e => nomatch e) (fun cdv A outer s H E hg hr => by
    refine ⟨_, pss_cons (ps_if (PW.pt (pw_or (pt_not (pt_val (pe_callB (kx_isiT (K := K) rfl) (by rfl) T.z_isinstance bt_isinstance (pa_cons (pv 0) (pa_cons (pe_tup (pa_cons (pe_bltn (v := .ty "list") (by rfl) T.z_list bt_list rfl) (pa_cons (pe_bltn (v := .ty "tuple") (by rfl) T.z_tuple bt_tuple rfl) pa_nil))) pa_nil))))) (pw_or1 (pt_not (pt_val (pe_callB (kx_all (K := K) rfl rfl) (by rfl) T.z_all bt_all (pa_cons (pe_lc (own := [("one", 2)]) (g := gName 2) (tt := tYes)  rfl sc_cell_tuple.nd (pi_seq (K := K) rfl (pv 0)) (blkOk_by (own := [("one", 2)]) (N := N_cell_tuple) (sc := defScope st_cell_tuple) (by decide +kernel)) (fun _ _ _ _ _ => pg_name (i := 2) sc_cell_tuple.nd rfl (by first | exact Or.inl rfl | exact Or.inr rfl)) (fun _ _ _ _ _ => pts_nil) (fun _ _ _ _ _ => pe_fnKS ((ok_is_cell T).atKS hg (hr.mono (by decide)) (kb_is_cell__1_size T) takes0) rfl T.g_is_cell T.F_is_cell.kp (pa_cons (pv 2) pa_nil) (pk_cons (pv 1) pk_nil))) pa_nil))))))) (pss_one (ps_err (k := 0) rfl T.e_NoCells er_rel1 (hr.mono (by decide)) (takes_of rfl rfl rfl rfl) (pa_cons (pv 0) pa_nil) rfl)) pss_nil)
    (pss_cons (ps_set (i := 3) sc_cell_tuple.nd rfl (by first | exact Or.inl rfl | exact Or.inr rfl) (pe_callB (kx_sorted (K := K) rfl) (by rfl) T.z_sorted bt_sorted (pa_cons (pv 0) pa_nil)))
    (pss_cons (ps_if (pt_not (pt_val (pe_callB (kx_all (K := K) rfl rfl) (by rfl) T.z_all bt_all (pa_cons (pe_lc (own := [("one", 2), ("other", 4)]) (g := gTup K 2 (gCons (gName 2) (gCons (gName 4) (gNil)))) (tt := tYes)  rfl sc_cell_tuple.nd (pi_zipK (K := K) rfl (by rfl) T.z_zip (pa_cons (pv 3) (pa_cons (pe_slice (kx_sl (K := K) rfl) (pv 3) (po_some (pe_int)) po_none) pa_nil))) (blkOk_by (own := [("one", 2), ("other", 4)]) (N := N_cell_tuple) (sc := defScope st_cell_tuple) (by decide +kernel)) (fun _ _ _ _ _ => pg_tupK (K := K) rfl rfl (pgs_cons (pg_name (i := 2) sc_cell_tuple.nd rfl (by first | exact Or.inl rfl | exact Or.inr rfl)) (pgs_cons (pg_name (i := 4) sc_cell_tuple.nd rfl (by first | exact Or.inl rfl | exact Or.inr rfl)) pgs_nil))) (fun _ _ _ _ _ => pts_nil) (fun _ _ _ _ _ => pe_cmpR op_lt (pv 2) (pv 4) (nomark _))) pa_nil)))) (pss_one (ps_err (k := 0) rfl T.e_NoCells er_rel1 (hr.mono (by decide)) (takes_of rfl rfl rfl rfl) (pa_cons (pv 0) pa_nil) rfl)) pss_nil)
    (pss_one (ps_ret (pe_callTy (kx_tuple (K := K) rfl) (by rfl) T.z_tuple bt_tuple (pa_cons (pv 3) pa_nil)))))), ?_⟩
    exact ⟨_, fun x => (simS_seq (simS_if le_none (simB_or (simB_not (simB_B (sim_callB cb_isiT2 (simA_cons (sim_var (i := 0) (r := kPy) (x := x.1) rfl) (simA_cons (sim_pair (simA_cons (sim_ty (T := "list")) (simA_cons (sim_ty (T := "tuple")) simA_nil))) simA_nil))))) (simB_not (simB_B (sim_callB cb_all (simA_cons (sim_lc (simI_py (i := 0) (d := x.1) rfl) simG_name (fun _ _ hy => hy) (fun (x18 : PyData) => simB_yes) (fun (x18 : PyData) => (sim_callK (cal_liftK (δ' := fun x : PyData × Int × Unit => [kPy x.1, kI x.2.1]) (w := w_is_cell K cl) (fun (x : PyData × Unit) (y : Int × Unit) => (x.1, y.1, ())) (by rintro Z H x y vs zs ⟨_, _, rfl, a0, rfl⟩ ⟨_, _, rfl, a1, rfl⟩; exact ⟨_, _, rfl, a0, _, _, rfl, a1, rfl⟩)) (simA_cons (sim_var (i := 2) (r := kPy) (x := x18) rfl) simA_nil) (simA_cons (sim_var (i := 1) (r := kI) (x := x.2.1) rfl) simA_nil)))) simA_nil))))) (simS_raise le_none (simA_cons (sim_var (i := 0) (r := kPy) (x := x.1) rfl) simA_nil) (fun (y : PyData × Unit) => [("cells", kPy y.1)]) (by rintro y Z H vs ⟨v, _, rfl, h, rfl⟩; exact ⟨v, [], rfl, rfl, v, [], rfl, h, rfl⟩)) (simS_next (simS_seq (simS_asg simG_name le_none (sim_callB cb_sortedPy (simA_cons (sim_var (i := 0) (r := kPy) (x := x.1) rfl) simA_nil)) (fun (found_37 : List Int) => (show SimS _ _ ([some (kPy x.1), some (kI x.2.1), none, some ((kL kI) found_37), none] : Gm K) _ _ _ _ from (simS_seq (simS_if le_none (simB_not (simB_B (sim_callB cb_all (simA_cons (sim_lc (simI_zip (simA_cons (sim_var (i := 3) (r := (kL kI)) (x := found_37) rfl) (simA_cons (sim_sl ss_L (sim_var (i := 3) (r := (kL kI)) (x := found_37) rfl) (simO_some sim_i) simO_no) simA_nil))) (simG_pair simG_name simG_name) (fun _ _ hy => hy) (fun (x47 : (Int × Int)) => simB_yes) (fun (x47 : (Int × Int)) => (sim_op os_B0 (sim_var (i := 2) (r := kI) (x := x47.1) rfl) (sim_var (i := 4) (r := kI) (x := x47.2) rfl)))) simA_nil)))) (simS_raise le_none (simA_cons (sim_var (i := 0) (r := kPy) (x := x.1) rfl) simA_nil) (fun (y : PyData × Unit) => [("cells", kPy y.1)]) (by rintro y Z H vs ⟨v, _, rfl, h, rfl⟩; exact ⟨v, [], rfl, rfl, v, [], rfl, h, rfl⟩)) (simS_next (simS_ret le_none (sim_callB cb_tupleL (simA_cons (sim_var (i := 3) (r := (kL kI)) (x := found_37) rfl) simA_nil))))))))))))), fun _ _ _ _ h => h⟩)
def w_cell_mask (K : PySem.W.Frag) (cl : Cl) : PyData × Int × Unit → W K Int := fun x => outW (bnd (bnd (bnd (bnd (bnd (ret x.1) fun p4 => (bnd (ret ()) fun p5 => (ret (p4, p5)))) fun p1 => (bnd (bnd (ret x.2.1) fun p6 => (bnd (ret ()) fun p7 => (ret (p6, p7)))) fun p2 => (w_cell_tuple K cl ((fun (x : PyData × Unit) (y : Int × Unit) => (x.1, y.1, ())) p1 p2)))) fun p11 => (bnd (ret ()) fun p12 => (ret (p11, p12)))) fun p8 => (w_mask_of K cl p8)) fun v13 => (ret (Flow.rt v13))) none
abbrev sp_cell_mask (K : PySem.W.Frag) (cl : Cl) : Sp := lift K (fun x : PyData × Int × Unit => [kPy x.1, kI x.2.1]) kI (w_cell_mask K cl)
theorem ok_cell_mask (T : Tx K mg cl) : FnG P w K mg base 4 T.a_cell_mask T.fd_cell_mask ["things", "size"] (sp_cell_mask K cl) :=
  okL T.F_cell_mask sc_cell_mask (fun _ => rfl) none (fun y e => nomatch e) (fun cdv A outer s H E hg hr => by
    refine ⟨_, pss_one (ps_ret (pe_fnS ((ok_mask_of T).atS hg (hr.mono (by decide)) (b_mask_of T) .nil (takes_of rfl rfl rfl rfl)) rfl T.g_mask_of T.F_mask_of.kp (pa_cons (pe_fnKS ((ok_cell_tuple T).atKS hg (hr.mono (by decide)) (kb_cell_tuple__1_size T) (takes_of rfl rfl rfl rfl)) rfl T.g_cell_tuple T.F_cell_tuple.kp (pa_cons (pv 0) pa_nil) (pk_cons (pv 1) pk_nil)) pa_nil))), ?_⟩
    exact ⟨_, fun x => (simS_ret le_none (sim_call (cal_lift (w := w_mask_of K cl)) (simA_cons (sim_callK (cal_liftK (δ' := fun x : PyData × Int × Unit => [kPy x.1, kI x.2.1]) (w := w_cell_tuple K cl) (fun (x : PyData × Unit) (y : Int × Unit) => (x.1, y.1, ())) (by rintro Z H x y vs zs ⟨_, _, rfl, a0, rfl⟩ ⟨_, _, rfl, a1, rfl⟩; exact ⟨_, _, rfl, a0, _, _, rfl, a1, rfl⟩)) (simA_cons (sim_var (i := 0) (r := kPy) (x := x.1) rfl) simA_nil) (simA_cons (sim_var (i := 1) (r := kI) (x := x.2.1) rfl) simA_nil)) simA_nil))), fun _ _ _ _ h => h⟩)
def w_is_odd (K : PySem.W.Frag) (cl : Cl) : Int × Unit → W K Bool := fun x => outW (bnd (bnd (ret x.1) fun p15 => (bnd (bnd (ret false) fun p13 => (bnd (ret ()) fun p14 => (ret (p13, p14)))) fun p16 => (ret (p15, p16)))) fun (y1 : Int × Bool × Unit) => (bnd (whileW (fun (s2 : Int × Bool × Unit) => (bnd (ret s2.1) fun v4 => (bnd (ret (0 : Int)) fun v5 => (ret (decide (v5 < v4)))))) (fun (s2 : Int × Bool × Unit) => (bnd (bnd (ret s2.1) fun v8 => (bnd (bnd (ret s2.1) fun v6 => (bnd (ret (1 : Int)) fun v7 => (ret (v6 - v7)))) fun v9 => (ret (Builtin.bitAnd v8 v9)))) fun (rest_10 : Int) => (bnd (bnd (ret s2.2.1) fun v11 => (ret (!v11))) fun (found_12 : Bool) => (ret (Flow.nx (rest_10, found_12, ())))))) (y1.1, y1.2.1, ())) (aft fun (s2 : Int × Bool × Unit) => (bnd (ret s2.2.1) fun v3 => (ret (Flow.rt v3)))))) none
abbrev sp_is_odd (K : PySem.W.Frag) (cl : Cl) : Sp := lift K (fun x : Int × Unit => [kI x.1]) kB (w_is_odd K cl)
theorem ok_is_odd (T : Tx K mg cl) : FnG P w K mg base 1 T.a_is_odd T.fd_is_odd ["mask"] (sp_is_odd K cl) :=
  okL T.F_is_odd sc_is_odd (fun _ => rfl) none (fun y e => nomatch e) (fun cdv A outer s H E hg hr => by
    refine ⟨_, pss_cons (ps_par (i := 1) (j := 2) (by rfl) sc_is_odd.nd rfl rfl (by decide) rfl rfl (pa_cons (pv 0) (pa_cons (pe_bl) pa_nil)) (by rfl))
    (pss_cons (ps_while (passes_of rfl) (pt_cmpR op_gt (pv 1) (pe_int) (nomark _))
      (pss_cons (ps_set (i := 1) sc_is_odd.nd rfl (by first | exact Or.inl rfl | exact Or.inr rfl) (pe_op op_and (pv 1) (pe_op op_sub (pv 1) (pe_int))))
    (pss_one (ps_set (i := 2) sc_is_odd.nd rfl (by first | exact Or.inl rfl | exact Or.inr rfl) (pe_not (pv 2))))))
    (pss_one (ps_ret (pv 2)))), ?_⟩
    exact ⟨_, fun x => (simS_seq (simS_par (r := kI) (s := kB) le_none (simA_cons (sim_var (i := 0) (r := kI) (x := x.1) rfl) (simA_cons sim_b simA_nil)) (fun (y1 : Int × Bool × Unit) => (show SimS _ _ ([some (kI x.1), some (kI y1.1), some (kB y1.2.1)] : Gm K) _ _ _ _ from (simS_seq (simS_while (Gl := (fun s2 : Int × Bool × Unit => ([some (kI x.1), some (kI s2.1), some (kB s2.2.1)] : Gm K))) (s0 := (y1.1, y1.2.1, ())) (fun _ => le_none) (.so (.so (.so .nil))) (fun (s2 : Int × Bool × Unit) => (simB_test (sim_op os_B0 (sim_var (i := 1) (r := kI) (x := s2.1) rfl) sim_i))) (fun (s2 : Int × Bool × Unit) => (show SimS _ _ ([some (kI x.1), some (kI s2.1), some (kB s2.2.1)] : Gm K) _ _ _ _ from (simS_seq (simS_asg simG_name le_none (sim_op os_I0 (sim_var (i := 1) (r := kI) (x := s2.1) rfl) (sim_op os_I0 (sim_var (i := 1) (r := kI) (x := s2.1) rfl) sim_i)) (fun (rest_10 : Int) => (show SimS _ _ ([some (kI x.1), some (kI rest_10), some (kB s2.2.1)] : Gm K) _ _ _ _ from (simS_asg simG_name le_none (sim_notV (sim_var (i := 2) (r := kB) (x := s2.2.1) rfl)) (fun (found_12 : Bool) => (show SimS _ _ ([some (kI x.1), some (kI rest_10), some (kB found_12)] : Gm K) _ _ _ _ from (simS_end (s := ((rest_10, found_12, ()) : Int × Bool × Unit)) (.so (.so (.so .nil))))))))))))) (fun (s2 : Int × Bool × Unit) => (show SimS _ _ ([some (kI x.1), some (kI s2.1), some (kB s2.2.1)] : Gm K) _ _ _ _ from (simS_ret le_none (sim_var (i := 2) (r := kB) (x := s2.2.1) rfl)))))))))), fun _ _ _ _ h => h⟩)
def w_Flip____init__ (K : PySem.W.Frag) (cl : Cl) : Addr × PyData × PyData × Unit → W K Unit := fun x => outW (bnd (bnd (bnd (ret x.2.1) fun p6 => (bnd (bnd (ret (40 : Int)) fun p4 => (bnd (ret ()) fun p5 => (ret (p4, p5)))) fun p7 => (ret (p6, p7)))) fun p1 => (w_cell_mask K cl p1)) fun v34 => (bnd (ret x.1) fun v35 => (wSetF cl.Flip "test_mask" v35 (kI v34) (bnd (bnd (bnd (ret x.2.2.1) fun p13 => (bnd (bnd (ret (40 : Int)) fun p11 => (bnd (ret ()) fun p12 => (ret (p11, p12)))) fun p14 => (ret (p13, p14)))) fun p8 => (w_cell_mask K cl p8)) fun v32 => (bnd (ret x.1) fun v33 => (wSetF cl.Flip "toggle_mask" v33 (kI v32) (bnd (bnd (bnd (bnd (ret x.1) (wGetF cl.Flip "toggle_mask" kI)) fun v15 => (bnd (ret (1 : Int)) fun v16 => (ret (Builtin.bitAnd v15 v16)))) fun v17 => (bnd (ret (1 : Int)) fun v18 => (ret (decide (v17 = v18))))) fun v31 => (wIf v31 (bnd (bnd (ret ("fixed" : Str)) fun p19 => (bnd (ret ()) fun p20 => (ret (p19, p20)))) fun (y : Str × Unit) => (wRaise (cl.NoFlip, [("why", kS y.1)]))) (bnd (bnd (bnd (bnd (bnd (ret x.1) (wGetF cl.Flip "test_mask" kI)) fun v21 => (bnd (bnd (ret x.1) (wGetF cl.Flip "toggle_mask" kI)) fun v22 => (ret (Builtin.bitAnd v21 v22)))) fun p26 => (bnd (ret ()) fun p27 => (ret (p26, p27)))) fun p23 => (w_is_odd K cl p23)) fun v30 => (wIf v30 (bnd (bnd (ret ("odd" : Str)) fun p28 => (bnd (ret ()) fun p29 => (ret (p28, p29)))) fun (y : Str × Unit) => (wRaise (cl.NoFlip, [("why", kS y.1)]))) (ret (Flow.nx ())))))))))))) (some ())
abbrev sp_Flip____init__ (K : PySem.W.Frag) (cl : Cl) : Sp := lift K (fun x : Addr × PyData × PyData × Unit => [kRef x.1, kPy x.2.1, kPy x.2.2.1]) kN (w_Flip____init__ K cl)
theorem ok_Flip____init__ (T : Tx K mg cl) : FnG P w K mg base 5 T.a_Flip____init__ T.fd_Flip____init__ ["self", "tested", "toggled"] (sp_Flip____init__ K cl) :=
  okL T.F_Flip____init__ sc_Flip____init__ (fun _ => rfl) (some ()) (fun y e => by cases e; rfl) (fun cdv A outer s H E hg hr => by
    refine ⟨_, pss_cons (ps_fldK (K := K) rfl (pv 0) (pe_fnS ((ok_cell_mask T).atS hg (hr.mono (by decide)) (b_cell_mask T) .nil (takes_of rfl rfl rfl rfl)) rfl T.g_cell_mask T.F_cell_mask.kp (pa_cons (pv 1) (pa_cons (pe_glob (v := (.int 40)) rfl T.c_MOST_CELLS ⟨_, rfl⟩) pa_nil))))
    (pss_cons (ps_fldK (K := K) rfl (pv 0) (pe_fnS ((ok_cell_mask T).atS hg (hr.mono (by decide)) (b_cell_mask T) .nil (takes_of rfl rfl rfl rfl)) rfl T.g_cell_mask T.F_cell_mask.kp (pa_cons (pv 2) (pa_cons (pe_glob (v := (.int 40)) rfl T.c_MOST_CELLS ⟨_, rfl⟩) pa_nil))))
    (pss_cons (ps_if (pt_cmpR (kx_eq (K := K) rfl hr) (pe_op op_and (pe_fldK (K := K) rfl (pv 0)) (pe_int)) (pe_int) (nomark _)) (pss_one (ps_err (k := 0) rfl T.e_NoFlip er_rel1 (hr.mono (by decide)) (takes_of rfl rfl rfl rfl) (pa_cons (pe_str) pa_nil) rfl)) pss_nil)
    (pss_one (ps_if (pt_val (pe_fnS ((ok_is_odd T).atS hg (hr.mono (by decide)) (b_is_odd T) .nil (takes_of rfl rfl rfl rfl)) rfl T.g_is_odd T.F_is_odd.kp (pa_cons (pe_op op_and (pe_fldK (K := K) rfl (pv 0)) (pe_fldK (K := K) rfl (pv 0))) pa_nil))) (pss_one (ps_err (k := 0) rfl T.e_NoFlip er_rel1 (hr.mono (by decide)) (takes_of rfl rfl rfl rfl) (pa_cons (pe_str) pa_nil) rfl)) pss_nil)))), ?_⟩
    exact ⟨_, fun x => (simS_seq (simS_fld (r := kI) T.cls_Flip T.no_Flip_test_mask le_none (sim_call (cal_lift (w := w_cell_mask K cl)) (simA_cons (sim_var (i := 1) (r := kPy) (x := x.2.1) rfl) (simA_cons sim_i simA_nil))) (sim_var (i := 0) (r := kRef) (x := x.1) rfl) (simS_seq (simS_fld (r := kI) T.cls_Flip T.no_Flip_toggle_mask le_none (sim_call (cal_lift (w := w_cell_mask K cl)) (simA_cons (sim_var (i := 2) (r := kPy) (x := x.2.2.1) rfl) (simA_cons sim_i simA_nil))) (sim_var (i := 0) (r := kRef) (x := x.1) rfl) (simS_seq (simS_if le_none (simB_test (sim_op os_eqI (sim_op os_I0 (sim_fldC (s := kI) T.cls_Flip T.no_Flip_toggle_mask (sim_var (i := 0) (r := kRef) (x := x.1) rfl)) sim_i) sim_i)) (simS_raise le_none (simA_cons sim_s simA_nil) (fun (y : Str × Unit) => [("why", kS y.1)]) (by rintro y Z H vs ⟨v, _, rfl, h, rfl⟩; exact ⟨v, [], rfl, rfl, v, [], rfl, h, rfl⟩)) (simS_next (simS_if le_none (simB_B (sim_call (cal_lift (w := w_is_odd K cl)) (simA_cons (sim_op os_I0 (sim_fldC (s := kI) T.cls_Flip T.no_Flip_test_mask (sim_var (i := 0) (r := kRef) (x := x.1) rfl)) (sim_fldC (s := kI) T.cls_Flip T.no_Flip_toggle_mask (sim_var (i := 0) (r := kRef) (x := x.1) rfl))) simA_nil))) (simS_raise le_none (simA_cons sim_s simA_nil) (fun (y : Str × Unit) => [("why", kS y.1)]) (by rintro y Z H vs ⟨v, _, rfl, h, rfl⟩; exact ⟨v, [], rfl, rfl, v, [], rfl, h, rfl⟩)) (simS_next (simS_end (.no (.no (.no .nil))))))))))))), fun _ _ _ _ h => h⟩)
def w_turn_flip (K : PySem.W.Frag) (cl : Cl) : PyData × Unit → W K (Nat × Nat) := fun x => outW (bnd (bnd (bnd (ret x.1) fun p8 => (bnd (bnd (ret (1 : Int)) fun p6 => (bnd (bnd (ret (40 : Int)) fun p4 => (bnd (ret ()) fun p5 => (ret (p4, p5)))) fun p7 => (ret (p6, p7)))) fun p9 => (ret (p8, p9)))) fun p1 => (w_require_cell K cl p1)) fun _ => (bnd (bnd (bnd (bnd (bnd (bnd (bnd (ret (0 : Int)) fun p11 => (bnd (ret ()) fun p12 => (ret (p11, p12)))) fun y10 => (ret ([y10.1] : List Int))) fun v13 => (ret ((fun xs => PyData.list (xs.map PyData.int)) v13))) fun p23 => (bnd (bnd (bnd (bnd (bnd (ret x.1) fun p15 => (bnd (ret ()) fun p16 => (ret (p15, p16)))) fun y14 => (ret ([y14.1] : List PyData))) fun v17 => (ret ((fun xs => PyData.list (xs.map id)) v17))) fun p21 => (bnd (ret ()) fun p22 => (ret (p21, p22)))) fun p24 => (ret (p23, p24)))) fun p18 => (wMk cl.Flip (w_Flip____init__ K cl) p18)) (wFrz cl.Flip (fs_Flip K cl))) fun v25 => (ret (Flow.rt v25)))) none
abbrev sp_turn_flip (K : PySem.W.Frag) (cl : Cl) : Sp := lift K (fun x : PyData × Unit => [kPy x.1]) (k_Flip K cl) (w_turn_flip K cl)
theorem ok_turn_flip (T : Tx K mg cl) : FnG P w K mg base 7 T.a_turn_flip T.fd_turn_flip ["cell"] (sp_turn_flip K cl) :=
  okL T.F_turn_flip sc_turn_flip (fun _ => rfl) none (fun y e => nomatch e) (fun cdv A outer s H E hg hr => by
    refine ⟨_, pss_cons (ps_expr (pe_fnS ((ok_require_cell T).atS hg (hr.mono (by decide)) (b_require_cell T) .nil (takes_of rfl rfl rfl rfl)) rfl T.g_require_cell T.F_require_cell.kp (pa_cons (pv 0) (pa_cons (pe_int) (pa_cons (pe_glob (v := (.int 40)) rfl T.c_MOST_CELLS ⟨_, rfl⟩) pa_nil)))))
    (pss_one (ps_ret (pe_fnS ((ok_Flip____init__ T).make T.mk_Flip hg (hr.mono (by decide)) (b_Flip____init__ T) .nil (takes_of rfl rfl rfl rfl)) rfl T.gc_Flip T.mk_Flip.kp (pa_cons (pe_lst (pa_cons (pe_int) pa_nil)) (pa_cons (pe_lst (pa_cons (pv 0) pa_nil)) pa_nil))))), ?_⟩
    exact ⟨_, fun x => (simS_seq (simS_drop le_none (sim_call (cal_lift (w := w_require_cell K cl)) (simA_cons (sim_var (i := 0) (r := kPy) (x := x.1) rfl) (simA_cons sim_i (simA_cons sim_i simA_nil)))) (simS_ret le_none (sim_frz (fs := fs_Flip K cl) (r := (k_Flip K cl)) (fun _ => rfl) (sim_call (cal_mk (w := w_Flip____init__ K cl)) (simA_cons (sim_co (sim_lstK (r := kI) (fun y10 : Int × Unit => ([y10.1] : List Int)) (fun _ => rfl) (fun _ => (by decide : 1 ≤ 50000)) (simA_cons sim_i simA_nil)) (co_LP co_I)) (simA_cons (sim_co (sim_lstK (r := kPy) (fun y14 : PyData × Unit => ([y14.1] : List PyData)) (fun _ => rfl) (fun _ => (by decide : 1 ≤ 50000)) (simA_cons (sim_var (i := 0) (r := kPy) (x := x.1) rfl) simA_nil)) (co_LP co_id)) simA_nil))))))), fun _ _ _ _ h => h⟩)
def w_add_flip (K : PySem.W.Frag) (cl : Cl) : PyData × PyData × Unit → W K (Nat × Nat) := fun x => outW (bnd (bnd (bnd (ret x.1) fun p8 => (bnd (bnd (ret (0 : Int)) fun p6 => (bnd (bnd (ret (40 : Int)) fun p4 => (bnd (ret ()) fun p5 => (ret (p4, p5)))) fun p7 => (ret (p6, p7)))) fun p9 => (ret (p8, p9)))) fun p1 => (w_require_cell K cl p1)) fun _ => (bnd (bnd (bnd (ret x.2.1) fun p17 => (bnd (bnd (ret (1 : Int)) fun p15 => (bnd (bnd (ret (40 : Int)) fun p13 => (bnd (ret ()) fun p14 => (ret (p13, p14)))) fun p16 => (ret (p15, p16)))) fun p18 => (ret (p17, p18)))) fun p10 => (w_require_cell K cl p10)) fun _ => (bnd (bnd (ret x.2.1) fun v19 => (bnd (ret x.1) fun v20 => (wAss (SeqAt.shaped v19 = true ∧ SeqAt.shaped v20 = true) (ret (PyData.eqv v19 v20))))) fun v39 => (wIf v39 (bnd (bnd (ret x.2.1) fun p21 => (bnd (ret ()) fun p22 => (ret (p21, p22)))) fun (y : PyData × Unit) => (wRaise (cl.NoCell, [("cell", kPy y.1)]))) (bnd (bnd (bnd (bnd (bnd (bnd (bnd (ret x.1) fun p24 => (bnd (ret ()) fun p25 => (ret (p24, p25)))) fun y23 => (ret ([y23.1] : List PyData))) fun v26 => (ret ((fun xs => PyData.list (xs.map id)) v26))) fun p36 => (bnd (bnd (bnd (bnd (bnd (ret x.2.1) fun p28 => (bnd (ret ()) fun p29 => (ret (p28, p29)))) fun y27 => (ret ([y27.1] : List PyData))) fun v30 => (ret ((fun xs => PyData.list (xs.map id)) v30))) fun p34 => (bnd (ret ()) fun p35 => (ret (p34, p35)))) fun p37 => (ret (p36, p37)))) fun p31 => (wMk cl.Flip (w_Flip____init__ K cl) p31)) (wFrz cl.Flip (fs_Flip K cl))) fun v38 => (ret (Flow.rt v38))))))) none
abbrev sp_add_flip (K : PySem.W.Frag) (cl : Cl) : Sp := lift K (fun x : PyData × PyData × Unit => [kPy x.1, kPy x.2.1]) (k_Flip K cl) (w_add_flip K cl)
theorem ok_add_flip (T : Tx K mg cl) : FnG P w K mg base 7 T.a_add_flip T.fd_add_flip ["cell", "to"] (sp_add_flip K cl) :=
  okL T.F_add_flip sc_add_flip (fun _ => rfl) none (fun y e => nomatch e) (fun cdv A outer s H E hg hr => by
    refine ⟨_, pss_cons (ps_expr (pe_fnS ((ok_require_cell T).atS hg (hr.mono (by decide)) (b_require_cell T) .nil (takes_of rfl rfl rfl rfl)) rfl T.g_require_cell T.F_require_cell.kp (pa_cons (pv 0) (pa_cons (pe_int) (pa_cons (pe_glob (v := (.int 40)) rfl T.c_MOST_CELLS ⟨_, rfl⟩) pa_nil)))))
    (pss_cons (ps_expr (pe_fnS ((ok_require_cell T).atS hg (hr.mono (by decide)) (b_require_cell T) .nil (takes_of rfl rfl rfl rfl)) rfl T.g_require_cell T.F_require_cell.kp (pa_cons (pv 1) (pa_cons (pe_int) (pa_cons (pe_glob (v := (.int 40)) rfl T.c_MOST_CELLS ⟨_, rfl⟩) pa_nil)))))
    (pss_cons (ps_if (pt_cmpR (kx_eq (K := K) rfl hr) (pv 1) (pv 0) (nomark _)) (pss_one (ps_err (k := 0) rfl T.e_NoCell er_rel1 (hr.mono (by decide)) (takes_of rfl rfl rfl rfl) (pa_cons (pv 1) pa_nil) rfl)) pss_nil)
    (pss_one (ps_ret (pe_fnS ((ok_Flip____init__ T).make T.mk_Flip hg (hr.mono (by decide)) (b_Flip____init__ T) .nil (takes_of rfl rfl rfl rfl)) rfl T.gc_Flip T.mk_Flip.kp (pa_cons (pe_lst (pa_cons (pv 0) pa_nil)) (pa_cons (pe_lst (pa_cons (pv 1) pa_nil)) pa_nil))))))), ?_⟩
    exact ⟨_, fun x => (simS_seq (simS_drop le_none (sim_call (cal_lift (w := w_require_cell K cl)) (simA_cons (sim_var (i := 0) (r := kPy) (x := x.1) rfl) (simA_cons sim_i (simA_cons sim_i simA_nil)))) (simS_seq (simS_drop le_none (sim_call (cal_lift (w := w_require_cell K cl)) (simA_cons (sim_var (i := 1) (r := kPy) (x := x.2.1) rfl) (simA_cons sim_i (simA_cons sim_i simA_nil)))) (simS_seq (simS_if le_none (simB_test (sim_op os_eqP (sim_var (i := 1) (r := kPy) (x := x.2.1) rfl) (sim_var (i := 0) (r := kPy) (x := x.1) rfl))) (simS_raise le_none (simA_cons (sim_var (i := 1) (r := kPy) (x := x.2.1) rfl) simA_nil) (fun (y : PyData × Unit) => [("cell", kPy y.1)]) (by rintro y Z H vs ⟨v, _, rfl, h, rfl⟩; exact ⟨v, [], rfl, rfl, v, [], rfl, h, rfl⟩)) (simS_next (simS_ret le_none (sim_frz (fs := fs_Flip K cl) (r := (k_Flip K cl)) (fun _ => rfl) (sim_call (cal_mk (w := w_Flip____init__ K cl)) (simA_cons (sim_co (sim_lstK (r := kPy) (fun y23 : PyData × Unit => ([y23.1] : List PyData)) (fun _ => rfl) (fun _ => (by decide : 1 ≤ 50000)) (simA_cons (sim_var (i := 0) (r := kPy) (x := x.1) rfl) simA_nil)) (co_LP co_id)) (simA_cons (sim_co (sim_lstK (r := kPy) (fun y27 : PyData × Unit => ([y27.1] : List PyData)) (fun _ => rfl) (fun _ => (by decide : 1 ≤ 50000)) (simA_cons (sim_var (i := 1) (r := kPy) (x := x.2.1) rfl) simA_nil)) (co_LP co_id)) simA_nil)))))))))))), fun _ _ _ _ h => h⟩)
def w__law_due (K : PySem.W.Frag) (cl : Cl) : PyData × PyData × Int × Bool × Unit → W K (List PyData) := fun x => outW (bnd (bnd (bnd (bnd (ret x.1) fun p8 => (bnd (bnd (ret x.2.2.1) fun p6 => (bnd (bnd (ret (39 : Int)) fun p4 => (bnd (ret ()) fun p5 => (ret (p4, p5)))) fun p7 => (ret (p6, p7)))) fun p9 => (ret (p8, p9)))) fun p1 => (w__law_is_int K cl p1)) fun v10 => (ret (!v10))) fun v87 => (wIf v87 (bnd (bnd (bnd (bnd (ret ("cell" : Str)) fun v12 => (ret (PyData.str v12))) fun p18 => (bnd (bnd (ret x.1) fun p16 => (bnd (bnd (bnd (ret true) fun v13 => (ret (PyData.bool v13))) fun p14 => (bnd (ret ()) fun p15 => (ret (p14, p15)))) fun p17 => (ret (p16, p17)))) fun p19 => (ret (p18, p19)))) fun y11 => (ret ([y11.1, y11.2.1, y11.2.2.1] : List PyData))) fun v20 => (ret (Flow.rt v20))) (bnd (bnd (bnd (bnd (bnd (ret x.2.1) fun p28 => (bnd (bnd (ret (1 : Int)) fun p26 => (bnd (bnd (ret (39 : Int)) fun p24 => (bnd (ret ()) fun p25 => (ret (p24, p25)))) fun p27 => (ret (p26, p27)))) fun p29 => (ret (p28, p29)))) fun p21 => (w__law_is_int K cl p21)) fun v30 => (ret (!v30))) fun v33 => (wIf v33 (ret true) (bnd (ret x.1) fun v31 => (bnd (ret x.2.1) fun v32 => (wAss (SeqAt.shaped v31 = true ∧ SeqAt.shaped v32 = true) (ret (PyData.eqv v31 v32))))))) fun v86 => (wIf v86 (bnd (bnd (bnd (bnd (ret ("cell" : Str)) fun v35 => (ret (PyData.str v35))) fun p41 => (bnd (bnd (ret x.2.1) fun p39 => (bnd (bnd (bnd (ret true) fun v36 => (ret (PyData.bool v36))) fun p37 => (bnd (ret ()) fun p38 => (ret (p37, p38)))) fun p40 => (ret (p39, p40)))) fun p42 => (ret (p41, p42)))) fun y34 => (ret ([y34.1, y34.2.1, y34.2.2.1] : List PyData))) fun v43 => (ret (Flow.rt v43))) (bnd (bnd (bnd (bnd (bnd (bnd (bnd (bnd (ret x.1) (wAs PyData.int)) fun p49 => (bnd (bnd (bnd (ret x.2.1) (wAs PyData.int)) fun p47 => (bnd (ret ()) fun p48 => (ret (p47, p48)))) fun p50 => (ret (p49, p50)))) fun y44 => (ret ([y44.1, y44.2.1] : List Int))) fun p52 => (bnd (ret ()) fun p53 => (ret (p52, p53)))) fun y51 => (ret (isort y51.1))) fun p55 => (bnd (ret ()) fun p56 => (ret (p55, p56)))) fun y54 => (ret y54.1)) fun (both_57 : List Int) => (bnd (bnd (ret x.2.2.2.1) fun v84 => (wIf v84 (bnd (bnd (bnd (ret ("flip" : Str)) fun v59 => (ret (PyData.str v59))) fun p66 => (bnd (bnd (bnd (ret both_57) fun v60 => (ret ((fun xs => PyData.tuple (xs.map PyData.int)) v60))) fun p64 => (bnd (bnd (bnd (ret both_57) fun v61 => (ret ((fun xs => PyData.tuple (xs.map PyData.int)) v61))) fun p62 => (bnd (ret ()) fun p63 => (ret (p62, p63)))) fun p65 => (ret (p64, p65)))) fun p67 => (ret (p66, p67)))) fun y58 => (ret ([y58.1, y58.2.1, y58.2.2.1] : List PyData))) (bnd (bnd (bnd (ret ("flip" : Str)) fun v75 => (ret (PyData.str v75))) fun p82 => (bnd (bnd (bnd (bnd (bnd (ret x.1) fun p70 => (bnd (ret ()) fun p71 => (ret (p70, p71)))) fun y69 => (ret ([y69.1] : List PyData))) fun v76 => (ret ((fun xs => PyData.tuple (xs.map id)) v76))) fun p80 => (bnd (bnd (bnd (bnd (bnd (ret x.2.1) fun p73 => (bnd (ret ()) fun p74 => (ret (p73, p74)))) fun y72 => (ret ([y72.1] : List PyData))) fun v77 => (ret ((fun xs => PyData.tuple (xs.map id)) v77))) fun p78 => (bnd (ret ()) fun p79 => (ret (p78, p79)))) fun p81 => (ret (p80, p81)))) fun p83 => (ret (p82, p83)))) fun y68 => (ret ([y68.1, y68.2.1, y68.2.2.1] : List PyData))))) fun v85 => (ret (Flow.rt v85)))))))) none
abbrev sp__law_due (K : PySem.W.Frag) (cl : Cl) : Sp := lift K (fun x : PyData × PyData × Int × Bool × Unit => [kPy x.1, kPy x.2.1, kI x.2.2.1, kB x.2.2.2.1]) (kL kPy) (w__law_due K cl)
theorem ok__law_due (T : Tx K mg cl) : FnG P w K mg base 2 T.a__law_due T.fd__law_due ["_law_near", "_law_far", "_law_least", "_law_is_swap"] (sp__law_due K cl) :=
  okL T.F__law_due sc__law_due (fun _ => rfl) none (fun y e => nomatch e) (fun cdv A outer s H E hg hr => by
    refine ⟨_, pss_cons (ps_if (pt_not (pt_val (pe_fnS ((ok__law_is_int T).atS hg (hr.mono (by decide)) (b__law_is_int T) .nil (takes_of rfl rfl rfl rfl)) rfl T.g__law_is_int T.F__law_is_int.kp (pa_cons (pv 0) (pa_cons (pv 2) (pa_cons (pe_int) pa_nil)))))) (pss_one (ps_ret (pe_lst (pa_cons (pe_str) (pa_cons (pv 0) (pa_cons (pe_bl) pa_nil)))))) pss_nil)
    (pss_cons (ps_if (PW.pt (pw_or (pt_not (pt_val (pe_fnS ((ok__law_is_int T).atS hg (hr.mono (by decide)) (b__law_is_int T) .nil (takes_of rfl rfl rfl rfl)) rfl T.g__law_is_int T.F__law_is_int.kp (pa_cons (pv 1) (pa_cons (pe_int) (pa_cons (pe_int) pa_nil)))))) (pw_or1 (pt_cmpR (kx_eq (K := K) rfl hr) (pv 0) (pv 1) (nomark _))))) (pss_one (ps_ret (pe_lst (pa_cons (pe_str) (pa_cons (pv 1) (pa_cons (pe_bl) pa_nil)))))) pss_nil)
    (pss_cons (ps_set (i := 4) sc__law_due.nd rfl (by first | exact Or.inl rfl | exact Or.inr rfl) (pe_callTy (kx_tuple (K := K) rfl) (by rfl) T.z_tuple bt_tuple (pa_cons (pe_callB (kx_sorted (K := K) rfl) (by rfl) T.z_sorted bt_sorted (pa_cons (pe_lst (pa_cons (pv 0) (pa_cons (pv 1) pa_nil))) pa_nil)) pa_nil)))
    (pss_one (ps_ret (pe_ifExp (pt_val (pv 3)) (pe_lst (pa_cons (pe_str) (pa_cons (pv 4) (pa_cons (pv 4) pa_nil)))) (pe_lst (pa_cons (pe_str) (pa_cons (pe_tup (pa_cons (pv 0) pa_nil)) (pa_cons (pe_tup (pa_cons (pv 1) pa_nil)) pa_nil))))))))), ?_⟩
    exact ⟨_, fun x => (simS_seq (simS_if le_none (simB_not (simB_B (sim_call (cal_lift (w := w__law_is_int K cl)) (simA_cons (sim_var (i := 0) (r := kPy) (x := x.1) rfl) (simA_cons (sim_var (i := 2) (r := kI) (x := x.2.2.1) rfl) (simA_cons sim_i simA_nil)))))) (simS_ret le_none (sim_lstK (r := kPy) (fun y11 : PyData × PyData × PyData × Unit => ([y11.1, y11.2.1, y11.2.2.1] : List PyData)) (fun _ => rfl) (fun _ => (by decide : 3 ≤ 50000)) (simA_cons (sim_co sim_s co_S) (simA_cons (sim_var (i := 0) (r := kPy) (x := x.1) rfl) (simA_cons (sim_co sim_b co_B) simA_nil))))) (simS_next (simS_seq (simS_if le_none (simB_or (simB_not (simB_B (sim_call (cal_lift (w := w__law_is_int K cl)) (simA_cons (sim_var (i := 1) (r := kPy) (x := x.2.1) rfl) (simA_cons sim_i (simA_cons sim_i simA_nil)))))) (simB_test (sim_op os_eqP (sim_var (i := 0) (r := kPy) (x := x.1) rfl) (sim_var (i := 1) (r := kPy) (x := x.2.1) rfl)))) (simS_ret le_none (sim_lstK (r := kPy) (fun y34 : PyData × PyData × PyData × Unit => ([y34.1, y34.2.1, y34.2.2.1] : List PyData)) (fun _ => rfl) (fun _ => (by decide : 3 ≤ 50000)) (simA_cons (sim_co sim_s co_S) (simA_cons (sim_var (i := 1) (r := kPy) (x := x.2.1) rfl) (simA_cons (sim_co sim_b co_B) simA_nil))))) (simS_next (simS_seq (simS_asg simG_name le_none (sim_callB cb_tupleL (simA_cons (sim_callB cb_sortedL (simA_cons (sim_lstK (r := kI) (fun y44 : Int × Int × Unit => ([y44.1, y44.2.1] : List Int)) (fun _ => rfl) (fun _ => (by decide : 2 ≤ 50000)) (simA_cons (sim_as oc_I (sim_var (i := 0) (r := kPy) (x := x.1) rfl)) (simA_cons (sim_as oc_I (sim_var (i := 1) (r := kPy) (x := x.2.1) rfl)) simA_nil))) simA_nil)) simA_nil)) (fun (both_57 : List Int) => (show SimS _ _ ([some (kPy x.1), some (kPy x.2.1), some (kI x.2.2.1), some (kB x.2.2.2.1), some ((kT kI) both_57)] : Gm K) _ _ _ _ from (simS_ret le_none (sim_if (simB_B (sim_var (i := 3) (r := kB) (x := x.2.2.2.1) rfl)) (sim_lstK (r := kPy) (fun y58 : PyData × PyData × PyData × Unit => ([y58.1, y58.2.1, y58.2.2.1] : List PyData)) (fun _ => rfl) (fun _ => (by decide : 3 ≤ 50000)) (simA_cons (sim_co sim_s co_S) (simA_cons (sim_co (sim_var (i := 4) (r := (kT kI)) (x := both_57) rfl) (co_TP co_I)) (simA_cons (sim_co (sim_var (i := 4) (r := (kT kI)) (x := both_57) rfl) (co_TP co_I)) simA_nil)))) (sim_lstK (r := kPy) (fun y68 : PyData × PyData × PyData × Unit => ([y68.1, y68.2.1, y68.2.2.1] : List PyData)) (fun _ => rfl) (fun _ => (by decide : 3 ≤ 50000)) (simA_cons (sim_co sim_s co_S) (simA_cons (sim_co (sim_tupK (r := kPy) (fun y69 : PyData × Unit => ([y69.1] : List PyData)) (fun _ => rfl) (fun _ => (by decide : 1 ≤ 50000)) (simA_cons (sim_var (i := 0) (r := kPy) (x := x.1) rfl) simA_nil)) (co_TP co_id)) (simA_cons (sim_co (sim_tupK (r := kPy) (fun y72 : PyData × Unit => ([y72.1] : List PyData)) (fun _ => rfl) (fun _ => (by decide : 1 ≤ 50000)) (simA_cons (sim_var (i := 1) (r := kPy) (x := x.2.1) rfl) simA_nil)) (co_TP co_id)) simA_nil)))))))))))))))), fun _ _ _ _ h => h⟩)
def w_swap_flip (K : PySem.W.Frag) (cl : Cl) : PyData × PyData × Unit → W K (Nat × Nat) := fun x => outW (bnd (bnd (bnd (ret x.1) fun p8 => (bnd (bnd (ret (1 : Int)) fun p6 => (bnd (bnd (ret (40 : Int)) fun p4 => (bnd (ret ()) fun p5 => (ret (p4, p5)))) fun p7 => (ret (p6, p7)))) fun p9 => (ret (p8, p9)))) fun p1 => (w_require_cell K cl p1)) fun _ => (bnd (bnd (bnd (ret x.2.1) fun p17 => (bnd (bnd (ret (1 : Int)) fun p15 => (bnd (bnd (ret (40 : Int)) fun p13 => (bnd (ret ()) fun p14 => (ret (p13, p14)))) fun p16 => (ret (p15, p16)))) fun p18 => (ret (p17, p18)))) fun p10 => (w_require_cell K cl p10)) fun _ => (bnd (bnd (ret x.1) fun v19 => (bnd (ret x.2.1) fun v20 => (wAss (SeqAt.shaped v19 = true ∧ SeqAt.shaped v20 = true) (ret (PyData.eqv v19 v20))))) fun v43 => (wIf v43 (bnd (bnd (ret x.2.1) fun p21 => (bnd (ret ()) fun p22 => (ret (p21, p22)))) fun (y : PyData × Unit) => (wRaise (cl.NoCell, [("cell", kPy y.1)]))) (bnd (bnd (bnd (bnd (bnd (bnd (bnd (ret x.1) fun p26 => (bnd (bnd (ret x.2.1) fun p24 => (bnd (ret ()) fun p25 => (ret (p24, p25)))) fun p27 => (ret (p26, p27)))) fun y23 => (ret ([y23.1, y23.2.1] : List PyData))) fun v28 => (ret ((fun xs => PyData.list (xs.map id)) v28))) fun p40 => (bnd (bnd (bnd (bnd (bnd (ret x.1) fun p32 => (bnd (bnd (ret x.2.1) fun p30 => (bnd (ret ()) fun p31 => (ret (p30, p31)))) fun p33 => (ret (p32, p33)))) fun y29 => (ret ([y29.1, y29.2.1] : List PyData))) fun v34 => (ret ((fun xs => PyData.list (xs.map id)) v34))) fun p38 => (bnd (ret ()) fun p39 => (ret (p38, p39)))) fun p41 => (ret (p40, p41)))) fun p35 => (wMk cl.Flip (w_Flip____init__ K cl) p35)) (wFrz cl.Flip (fs_Flip K cl))) fun v42 => (ret (Flow.rt v42))))))) none
abbrev sp_swap_flip (K : PySem.W.Frag) (cl : Cl) : Sp := lift K (fun x : PyData × PyData × Unit => [kPy x.1, kPy x.2.1]) (k_Flip K cl) (w_swap_flip K cl)
theorem ok_swap_flip (T : Tx K mg cl) : FnG P w K mg base 7 T.a_swap_flip T.fd_swap_flip ["one", "other"] (sp_swap_flip K cl) :=
  okL T.F_swap_flip sc_swap_flip (fun _ => rfl) none (fun y e => nomatch e) (fun cdv A outer s H E hg hr => by
    refine ⟨_, pss_cons (ps_expr (pe_fnS ((ok_require_cell T).atS hg (hr.mono (by decide)) (b_require_cell T) .nil (takes_of rfl rfl rfl rfl)) rfl T.g_require_cell T.F_require_cell.kp (pa_cons (pv 0) (pa_cons (pe_int) (pa_cons (pe_glob (v := (.int 40)) rfl T.c_MOST_CELLS ⟨_, rfl⟩) pa_nil)))))
    (pss_cons (ps_expr (pe_fnS ((ok_require_cell T).atS hg (hr.mono (by decide)) (b_require_cell T) .nil (takes_of rfl rfl rfl rfl)) rfl T.g_require_cell T.F_require_cell.kp (pa_cons (pv 1) (pa_cons (pe_int) (pa_cons (pe_glob (v := (.int 40)) rfl T.c_MOST_CELLS ⟨_, rfl⟩) pa_nil)))))
    (pss_cons (ps_if (pt_cmpR (kx_eq (K := K) rfl hr) (pv 0) (pv 1) (nomark _)) (pss_one (ps_err (k := 0) rfl T.e_NoCell er_rel1 (hr.mono (by decide)) (takes_of rfl rfl rfl rfl) (pa_cons (pv 1) pa_nil) rfl)) pss_nil)
    (pss_one (ps_ret (pe_fnS ((ok_Flip____init__ T).make T.mk_Flip hg (hr.mono (by decide)) (b_Flip____init__ T) .nil (takes_of rfl rfl rfl rfl)) rfl T.gc_Flip T.mk_Flip.kp (pa_cons (pe_lst (pa_cons (pv 0) (pa_cons (pv 1) pa_nil))) (pa_cons (pe_lst (pa_cons (pv 0) (pa_cons (pv 1) pa_nil))) pa_nil))))))), ?_⟩
    exact ⟨_, fun x => (simS_seq (simS_drop le_none (sim_call (cal_lift (w := w_require_cell K cl)) (simA_cons (sim_var (i := 0) (r := kPy) (x := x.1) rfl) (simA_cons sim_i (simA_cons sim_i simA_nil)))) (simS_seq (simS_drop le_none (sim_call (cal_lift (w := w_require_cell K cl)) (simA_cons (sim_var (i := 1) (r := kPy) (x := x.2.1) rfl) (simA_cons sim_i (simA_cons sim_i simA_nil)))) (simS_seq (simS_if le_none (simB_test (sim_op os_eqP (sim_var (i := 0) (r := kPy) (x := x.1) rfl) (sim_var (i := 1) (r := kPy) (x := x.2.1) rfl))) (simS_raise le_none (simA_cons (sim_var (i := 1) (r := kPy) (x := x.2.1) rfl) simA_nil) (fun (y : PyData × Unit) => [("cell", kPy y.1)]) (by rintro y Z H vs ⟨v, _, rfl, h, rfl⟩; exact ⟨v, [], rfl, rfl, v, [], rfl, h, rfl⟩)) (simS_next (simS_ret le_none (sim_frz (fs := fs_Flip K cl) (r := (k_Flip K cl)) (fun _ => rfl) (sim_call (cal_mk (w := w_Flip____init__ K cl)) (simA_cons (sim_co (sim_lstK (r := kPy) (fun y23 : PyData × PyData × Unit => ([y23.1, y23.2.1] : List PyData)) (fun _ => rfl) (fun _ => (by decide : 2 ≤ 50000)) (simA_cons (sim_var (i := 0) (r := kPy) (x := x.1) rfl) (simA_cons (sim_var (i := 1) (r := kPy) (x := x.2.1) rfl) simA_nil))) (co_LP co_id)) (simA_cons (sim_co (sim_lstK (r := kPy) (fun y29 : PyData × PyData × Unit => ([y29.1, y29.2.1] : List PyData)) (fun _ => rfl) (fun _ => (by decide : 2 ≤ 50000)) (simA_cons (sim_var (i := 0) (r := kPy) (x := x.1) rfl) (simA_cons (sim_var (i := 1) (r := kPy) (x := x.2.1) rfl) simA_nil))) (co_LP co_id)) simA_nil)))))))))))), fun _ _ _ _ h => h⟩)
def w__law_bits (K : PySem.W.Frag) (cl : Cl) : Addr × Int × Unit → W K (List Int) := fun x => outW (bnd (bnd (bnd (bnd (ret (1 : Int)) fun p2 => (bnd (ret ()) fun p3 => (ret (p2, p3)))) fun y1 => (ret ([y1.1] : List Int))) fun v18 => (bnd (bnd (bnd (bnd (ret (1 : Int)) fun p7 => (bnd (bnd (ret x.2.1) fun p5 => (bnd (ret ()) fun p6 => (ret (p5, p6)))) fun p8 => (ret (p7, p8)))) fun y4 => (wAss (-(2 ^ 62) ≤ y4.1 ∧ y4.1 < 2 ^ 62 ∧ -(2 ^ 62) ≤ y4.2.1 ∧ y4.2.1 < 2 ^ 62) (ret (rng y4.1 y4.2.1, nI)))) fun y10 => (wAss (y10.1.length ≤ 50000) (wCalm (fmapW y10.2 (fun (x9 : Int) => (ret true)) (fun (x9 : Int) => (bnd (bnd (ret x.1) fun p16 => (bnd (bnd (ret (2 : Int)) fun p14 => (bnd (ret ()) fun p15 => (ret (p14, p15)))) fun p17 => (ret (p16, p17)))) fun p11 => (w__law_draw K cl p11))) y10.1)))) fun v19 => (wAss (v18.length + v19.length ≤ 50000) (ret (v18 ++ v19))))) fun v20 => (ret (Flow.rt v20))) none
abbrev sp__law_bits (K : PySem.W.Frag) (cl : Cl) : Sp := lift K (fun x : Addr × Int × Unit => [kRef x.1, kI x.2.1]) (kL kI) (w__law_bits K cl)
theorem ok__law_bits (T : Tx K mg cl) : FnG P w K mg base 2 T.a__law_bits T.fd__law_bits ["_law_pot_here", "_law_width"] (sp__law_bits K cl) :=
  okL T.F__law_bits sc__law_bits (fun _ => rfl) none (fun y e => nomatch e) (fun cdv A outer s H E hg hr => by
    refine ⟨_, pss_one (ps_ret (pe_op (kx_add (K := K) rfl) (pe_lst (pa_cons (pe_int) pa_nil)) (pe_lc (own := [("_law_spot", 2)]) (g := gName 2) (tt := tYes)  rfl sc__law_bits.nd (pi_range2 rfl T.z_range (pa_cons (pe_int) (pa_cons (pv 1) pa_nil))) (blkOk_by (own := [("_law_spot", 2)]) (N := N__law_bits) (sc := defScope st__law_bits) (by decide +kernel)) (fun _ _ _ _ _ => pg_name (i := 2) sc__law_bits.nd rfl (by first | exact Or.inl rfl | exact Or.inr rfl)) (fun _ _ _ _ _ => pts_nil) (fun _ _ _ _ _ => pe_fnS ((ok__law_draw T).atS hg (hr.mono (by decide)) (b__law_draw T) .nil takes0) rfl T.g__law_draw T.F__law_draw.kp (pa_cons (pv 0) (pa_cons (pe_int) pa_nil)))))), ?_⟩
    exact ⟨_, fun x => (simS_ret le_none (sim_op os_addL (sim_lstK (r := kI) (fun y1 : Int × Unit => ([y1.1] : List Int)) (fun _ => rfl) (fun _ => (by decide : 1 ≤ 50000)) (simA_cons sim_i simA_nil)) (sim_lc (simI_r2 (simA_cons sim_i (simA_cons (sim_var (i := 1) (r := kI) (x := x.2.1) rfl) simA_nil))) simG_name (fun _ _ hy => hy) (fun (x9 : Int) => simB_yes) (fun (x9 : Int) => (sim_call (cal_lift (w := w__law_draw K cl)) (simA_cons (sim_var (i := 0) (r := kRef) (x := x.1) rfl) (simA_cons sim_i simA_nil))))))), fun _ _ _ _ h => h⟩)
def w_require_size (K : PySem.W.Frag) (cl : Cl) : PyData × Unit → W K Unit := fun x => outW (bnd (bnd (bnd (bnd (ret x.1) fun p8 => (bnd (bnd (ret (1 : Int)) fun p6 => (bnd (bnd (ret (40 : Int)) fun p4 => (bnd (ret ()) fun p5 => (ret (p4, p5)))) fun p7 => (ret (p6, p7)))) fun p9 => (ret (p8, p9)))) fun p1 => (w_is_integer_in K cl p1)) fun v10 => (ret (!v10))) fun v13 => (wIf v13 (bnd (bnd (ret x.1) fun p11 => (bnd (ret ()) fun p12 => (ret (p11, p12)))) fun (y : PyData × Unit) => (wRaise (cl.NoSize, [("value", kPy y.1)]))) (ret (Flow.nx ())))) (some ())
abbrev sp_require_size (K : PySem.W.Frag) (cl : Cl) : Sp := lift K (fun x : PyData × Unit => [kPy x.1]) kN (w_require_size K cl)
theorem ok_require_size (T : Tx K mg cl) : FnG P w K mg base 2 T.a_require_size T.fd_require_size ["size"] (sp_require_size K cl) :=
  okL T.F_require_size sc_require_size (fun _ => rfl) (some ()) (fun y e => by cases e; rfl) (fun cdv A outer s H E hg hr => by
    refine ⟨_, pss_one (ps_if (pt_not (pt_val (pe_fnS ((ok_is_integer_in T).atS hg (hr.mono (by decide)) (b_is_integer_in T) .nil (takes_of rfl rfl rfl rfl)) rfl T.g_is_integer_in T.F_is_integer_in.kp (pa_cons (pv 0) (pa_cons (pe_int) (pa_cons (pe_glob (v := (.int 40)) rfl T.c_MOST_CELLS ⟨_, rfl⟩) pa_nil)))))) (pss_one (ps_err (k := 0) rfl T.e_NoSize er_rel1 (hr.mono (by decide)) (takes_of rfl rfl rfl rfl) (pa_cons (pv 0) pa_nil) rfl)) pss_nil), ?_⟩
    exact ⟨_, fun x => (simS_if le_none (simB_not (simB_B (sim_call (cal_lift (w := w_is_integer_in K cl)) (simA_cons (sim_var (i := 0) (r := kPy) (x := x.1) rfl) (simA_cons sim_i (simA_cons sim_i simA_nil)))))) (simS_raise le_none (simA_cons (sim_var (i := 0) (r := kPy) (x := x.1) rfl) simA_nil) (fun (y : PyData × Unit) => [("value", kPy y.1)]) (by rintro y Z H vs ⟨v, _, rfl, h, rfl⟩; exact ⟨v, [], rfl, rfl, v, [], rfl, h, rfl⟩)) (simS_next (simS_end (.no .nil)))), fun _ _ _ _ h => h⟩)
def w_Board____init__ (K : PySem.W.Frag) (cl : Cl) : Addr × PyData × PyData × Unit → W K Unit := fun x => outW (bnd (bnd (bnd (ret x.2.1) fun p4 => (bnd (ret ()) fun p5 => (ret (p4, p5)))) fun p1 => (w_require_size K cl p1)) fun _ => (bnd (bnd (ret x.2.1) (wAs PyData.int)) fun v19 => (bnd (ret x.1) fun v20 => (wSetF cl.Board "own_size" v20 (kI v19) (bnd (bnd (bnd (bnd (ret x.2.2.1) fun p13 => (bnd (bnd (bnd (ret x.2.1) (wAs PyData.int)) fun p11 => (bnd (ret ()) fun p12 => (ret (p11, p12)))) fun p14 => (ret (p13, p14)))) fun p8 => (w_cell_mask K cl p8)) fun v15 => (bnd (ret (1 : Int)) fun v16 => (ret (Builtin.bitOr v15 v16)))) fun v17 => (bnd (ret x.1) fun v18 => (wSetF cl.Board "up_mask" v18 (kI v17) (ret (Flow.nx ()))))))))) (some ())
abbrev sp_Board____init__ (K : PySem.W.Frag) (cl : Cl) : Sp := lift K (fun x : Addr × PyData × PyData × Unit => [kRef x.1, kPy x.2.1, kPy x.2.2.1]) kN (w_Board____init__ K cl)
theorem ok_Board____init__ (T : Tx K mg cl) : FnG P w K mg base 5 T.a_Board____init__ T.fd_Board____init__ ["self", "size", "up"] (sp_Board____init__ K cl) :=
  okL T.F_Board____init__ sc_Board____init__ (fun _ => rfl) (some ()) (fun y e => by cases e; rfl) (fun cdv A outer s H E hg hr => by
    refine ⟨_, pss_cons (ps_expr (pe_fnS ((ok_require_size T).atS hg (hr.mono (by decide)) (b_require_size T) .nil (takes_of rfl rfl rfl rfl)) rfl T.g_require_size T.F_require_size.kp (pa_cons (pv 1) pa_nil)))
    (pss_cons (ps_fldK (K := K) rfl (pv 0) (pv 1))
    (pss_one (ps_fldK (K := K) rfl (pv 0) (pe_op op_or (pe_fnS ((ok_cell_mask T).atS hg (hr.mono (by decide)) (b_cell_mask T) .nil (takes_of rfl rfl rfl rfl)) rfl T.g_cell_mask T.F_cell_mask.kp (pa_cons (pv 2) (pa_cons (pv 1) pa_nil))) (pe_int))))), ?_⟩
    exact ⟨_, fun x => (simS_seq (simS_drop le_none (sim_call (cal_lift (w := w_require_size K cl)) (simA_cons (sim_var (i := 1) (r := kPy) (x := x.2.1) rfl) simA_nil)) (simS_seq (simS_fld (r := kI) T.cls_Board T.no_Board_own_size le_none (sim_as oc_I (sim_var (i := 1) (r := kPy) (x := x.2.1) rfl)) (sim_var (i := 0) (r := kRef) (x := x.1) rfl) (simS_fld (r := kI) T.cls_Board T.no_Board_up_mask le_none (sim_op os_I0 (sim_call (cal_lift (w := w_cell_mask K cl)) (simA_cons (sim_var (i := 2) (r := kPy) (x := x.2.2.1) rfl) (simA_cons (sim_as oc_I (sim_var (i := 1) (r := kPy) (x := x.2.1) rfl)) simA_nil))) sim_i) (sim_var (i := 0) (r := kRef) (x := x.1) rfl) (simS_end (.no (.no (.no .nil))))))))), fun _ _ _ _ h => h⟩)
def w__law_up (K : PySem.W.Frag) (cl : Cl) : (List Int) × Unit → W K (List Int) := fun x => outW (bnd (bnd (bnd (bnd (ret x.1) fun p2 => (bnd (ret ()) fun p3 => (ret (p2, p3)))) fun y1 => (ret (enumI y1.1, nI))) fun y5 => (wAss (y5.1.length ≤ 50000) (wCalm (fmapW y5.2 (fun (x4 : (Int × Int)) => (bnd (ret x4.2) fun v6 => (bnd (ret (1 : Int)) fun v7 => (ret (decide (v6 = v7)))))) (fun (x4 : (Int × Int)) => (ret x4.1)) y5.1)))) fun v8 => (ret (Flow.rt v8))) none
abbrev sp__law_up (K : PySem.W.Frag) (cl : Cl) : Sp := lift K (fun x : (List Int) × Unit => [(kL kI) x.1]) (kL kI) (w__law_up K cl)
theorem ok__law_up (T : Tx K mg cl) : FnG P w K mg base 1 T.a__law_up T.fd__law_up ["_law_bits_here"] (sp__law_up K cl) :=
  okL T.F__law_up sc__law_up (fun _ => rfl) none (fun y e => nomatch e) (fun cdv A outer s H E hg hr => by
    refine ⟨_, pss_one (ps_ret (pe_lc (own := [("_law_spot", 1), ("_law_bit", 2)]) (g := gTup K 2 (gCons (gName 1) (gCons (gName 2) (gNil))))  rfl sc__law_up.nd (pi_enumA (K := K) rfl (by rfl) T.z_enumerate (pa_cons (pv 0) pa_nil)) (blkOk_by (own := [("_law_spot", 1), ("_law_bit", 2)]) (N := N__law_up) (sc := defScope st__law_up) (by decide +kernel)) (fun _ _ _ _ _ => pg_tupK (K := K) rfl rfl (pgs_cons (pg_name (i := 1) sc__law_up.nd rfl (by first | exact Or.inl rfl | exact Or.inr rfl)) (pgs_cons (pg_name (i := 2) sc__law_up.nd rfl (by first | exact Or.inl rfl | exact Or.inr rfl)) pgs_nil))) (fun _ _ _ _ _ => pts_one (pt_cmpR (kx_eq (K := K) rfl hr) (pv 2) (pe_int) (nomark _))) (fun _ _ _ _ _ => pv 1))), ?_⟩
    exact ⟨_, fun x => (simS_ret le_none (sim_lc (simI_enumL (simA_cons (sim_var (i := 0) (r := (kL kI)) (x := x.1) rfl) simA_nil)) (simG_pair simG_name simG_name) (fun _ _ hy => hy) (fun (x4 : (Int × Int)) => (simB_test (sim_op os_eqI (sim_var (i := 2) (r := kI) (x := x4.2) rfl) sim_i))) (fun (x4 : (Int × Int)) => (sim_var (i := 1) (r := kI) (x := x4.1) rfl)))), fun _ _ _ _ h => h⟩)
def w__law_made (K : PySem.W.Frag) (cl : Cl) : (List Int) × Unit → W K (Nat × Nat) := fun x => outW (bnd (bnd (bnd (bnd (bnd (bnd (bnd (ret x.1) fun p2 => (bnd (ret ()) fun p3 => (ret (p2, p3)))) fun y1 => (ret (y1.1.length : Int))) fun v4 => (ret (PyData.int v4))) fun p14 => (bnd (ret ()) fun p15 => (ret (p14, p15)))) fun p11 => (bnd (bnd (bnd (bnd (bnd (ret x.1) fun p8 => (bnd (ret ()) fun p9 => (ret (p8, p9)))) fun p5 => (w__law_up K cl p5)) fun v10 => (ret ((fun xs => PyData.list (xs.map PyData.int)) v10))) fun p16 => (bnd (ret ()) fun p17 => (ret (p16, p17)))) fun p12 => (wMk cl.Board (w_Board____init__ K cl) ((fun (x : PyData × Unit) (y : PyData × Unit) => (x.1, y.1, ())) p11 p12)))) (wFrz cl.Board (fs_Board K cl))) fun v18 => (ret (Flow.rt v18))) none
abbrev sp__law_made (K : PySem.W.Frag) (cl : Cl) : Sp := lift K (fun x : (List Int) × Unit => [(kL kI) x.1]) (k_Board K cl) (w__law_made K cl)
theorem ok__law_made (T : Tx K mg cl) : FnG P w K mg base 7 T.a__law_made T.fd__law_made ["_law_bits_here"] (sp__law_made K cl) :=
  okL T.F__law_made sc__law_made (fun _ => rfl) none (fun y e => nomatch e) (fun cdv A outer s H E hg hr => by
    refine ⟨_, pss_one (ps_ret (pe_fnKS ((ok_Board____init__ T).makeK T.mk_Board hg (hr.mono (by decide)) (kb_Board____init____2_up T) (takes_of rfl rfl rfl rfl)) rfl T.gc_Board T.mk_Board.kp (pa_cons (pe_callB (kx_len (K := K) rfl) (by rfl) T.z_len bt_len (pa_cons (pv 0) pa_nil)) pa_nil) (pk_cons (pe_fnS ((ok__law_up T).atS hg (hr.mono (by decide)) (b__law_up T) .nil (takes_of rfl rfl rfl rfl)) rfl T.g__law_up T.F__law_up.kp (pa_cons (pv 0) pa_nil)) pk_nil))), ?_⟩
    exact ⟨_, fun x => (simS_ret le_none (sim_frz (fs := fs_Board K cl) (r := (k_Board K cl)) (fun _ => rfl) (sim_callK (cal_mkK (δ' := fun x : PyData × PyData × Unit => [kPy x.1, kPy x.2.1]) (w := w_Board____init__ K cl) (fun (x : PyData × Unit) (y : PyData × Unit) => (x.1, y.1, ())) (by rintro Z H x y vs zs v ⟨_, _, rfl, a0, rfl⟩ ⟨_, _, rfl, a1, rfl⟩; exact ⟨_, rfl, _, _, rfl, a0, _, _, rfl, a1, rfl⟩)) (simA_cons (sim_co (sim_callB cb_lenL (simA_cons (sim_var (i := 0) (r := (kL kI)) (x := x.1) rfl) simA_nil)) co_I) simA_nil) (simA_cons (sim_co (sim_call (cal_lift (w := w__law_up K cl)) (simA_cons (sim_var (i := 0) (r := (kL kI)) (x := x.1) rfl) simA_nil)) (co_LP co_I)) simA_nil)))), fun _ _ _ _ h => h⟩)
def w_Board__size (K : PySem.W.Frag) (cl : Cl) : (Nat × Nat) × Unit → W K Int := fun x => outW (bnd (bnd (ret x.1) fun x => ret (x.1 : Int)) fun v1 => (ret (Flow.rt v1))) none
abbrev sp_Board__size (K : PySem.W.Frag) (cl : Cl) : Sp := lift K (fun x : (Nat × Nat) × Unit => [(k_Board K cl) x.1]) kI (w_Board__size K cl)
theorem ok_Board__size (T : Tx K mg cl) : FnG P w K mg base 1 T.a_Board__size T.fd_Board__size ["self"] (sp_Board__size K cl) :=
  okL T.F_Board__size sc_Board__size (fun _ => rfl) none (fun y e => nomatch e) (fun cdv A outer s H E hg hr => by
    refine ⟨_, pss_one (ps_ret (pe_fldK (K := K) rfl (pv 0))), ?_⟩
    exact ⟨_, fun x => (simS_ret le_none (sim_fld (fs := fs_Board K cl) (s := kI) (fun x => (x.1 : Int)) (fun _ => rfl) (fun _ => fl_Board_own_size) T.cls_Board T.no_Board_own_size (sim_var (i := 0) (r := (k_Board K cl)) (x := x.1) rfl))), fun _ _ _ _ h => h⟩)
def w_Board__up (K : PySem.W.Frag) (cl : Cl) : (Nat × Nat) × Unit → W K (List Int) := fun x => outW (bnd (bnd (bnd (bnd (ret x.1) fun x => ret (x.2 : Int)) fun p4 => (bnd (ret ()) fun p5 => (ret (p4, p5)))) fun p1 => (w_cells_in K cl p1)) fun v6 => (ret (Flow.rt v6))) none
abbrev sp_Board__up (K : PySem.W.Frag) (cl : Cl) : Sp := lift K (fun x : (Nat × Nat) × Unit => [(k_Board K cl) x.1]) (kX kI) (w_Board__up K cl)
theorem ok_Board__up (T : Tx K mg cl) : FnG P w K mg base 2 T.a_Board__up T.fd_Board__up ["self"] (sp_Board__up K cl) :=
  okL T.F_Board__up sc_Board__up (fun _ => rfl) none (fun y e => nomatch e) (fun cdv A outer s H E hg hr => by
    refine ⟨_, pss_one (ps_ret (pe_fnS ((ok_cells_in T).atS hg (hr.mono (by decide)) (b_cells_in T) .nil (takes_of rfl rfl rfl rfl)) rfl T.g_cells_in T.F_cells_in.kp (pa_cons (pe_fldK (K := K) rfl (pv 0)) pa_nil))), ?_⟩
    exact ⟨_, fun x => (simS_ret le_none (sim_call (cal_lift (w := w_cells_in K cl)) (simA_cons (sim_fld (fs := fs_Board K cl) (s := kI) (fun x => (x.2 : Int)) (fun _ => rfl) (fun _ => fl_Board_up_mask) T.cls_Board T.no_Board_up_mask (sim_var (i := 0) (r := (k_Board K cl)) (x := x.1) rfl)) simA_nil))), fun _ _ _ _ h => h⟩)
def w__law_is_so (K : PySem.W.Frag) (cl : Cl) : (Nat × Nat) × (List Int) × Unit → W K Bool := fun x => outW (bnd (bnd (bnd (bnd (ret x.1) fun p4 => (bnd (bnd (ret cl.Board) fun p2 => (bnd (ret ()) fun p3 => (ret (p2, p3)))) fun p5 => (ret (p4, p5)))) fun y1 => (wAss (y1.2.1 = cl.Board) (ret true))) fun v31 => (wIf v31 (bnd (bnd (bnd (bnd (bnd (bnd (bnd (ret x.1) fun p8 => (wRcv (fun _ => True) (bnd (ret ()) fun p6 => (w_Board__up K cl (p8, p6))))) fun v9 => (ret v9)) fun p11 => (bnd (ret ()) fun p12 => (ret (p11, p12)))) fun y10 => (ret (isort y10.1))) fun v18 => (ret ((fun xs => PyData.list (xs.map PyData.int)) v18))) fun v20 => (bnd (bnd (bnd (bnd (ret x.2.1) fun p16 => (bnd (ret ()) fun p17 => (ret (p16, p17)))) fun p13 => (w__law_up K cl p13)) fun v19 => (ret ((fun xs => PyData.list (xs.map PyData.int)) v19))) fun v21 => (wAss (SeqAt.shaped v20 = true ∧ SeqAt.shaped v21 = true) (ret (PyData.eqv v20 v21))))) fun v30 => (wIf v30 (bnd (bnd (ret x.1) fun p24 => (wRcv (fun _ => True) (bnd (ret ()) fun p22 => (w_Board__size K cl (p24, p22))))) fun v28 => (bnd (bnd (bnd (ret x.2.1) fun p26 => (bnd (ret ()) fun p27 => (ret (p26, p27)))) fun y25 => (ret (y25.1.length : Int))) fun v29 => (ret (decide (v28 = v29))))) (ret false))) (ret false))) fun v32 => (ret (Flow.rt v32))) none
abbrev sp__law_is_so (K : PySem.W.Frag) (cl : Cl) : Sp := lift K (fun x : (Nat × Nat) × (List Int) × Unit => [(k_Board K cl) x.1, (kL kI) x.2.1]) kB (w__law_is_so K cl)
theorem ok__law_is_so (T : Tx K mg cl) : FnG P w K mg base 3 T.a__law_is_so T.fd__law_is_so ["_law_found", "_law_bits_here"] (sp__law_is_so K cl) :=
  okL T.F__law_is_so sc__law_is_so (fun _ => rfl) none (fun y e => nomatch e) (fun cdv A outer s H E hg hr => by
    refine ⟨_, pss_one (ps_ret (pe_and (pe_callB (kx_isi (K := K) rfl) (by rfl) T.z_isinstance bt_isinstance (pa_cons (pv 0) (pa_cons (pe_glob (v := .ref cl.Board) rfl T.gc_Board rfl) pa_nil))) (pe_and (pe_cmpR (kx_eq (K := K) rfl hr) (pe_callB (kx_sorted (K := K) rfl) (by rfl) T.z_sorted bt_sorted (pa_cons (pe_mS0 ((ok_Board__up T).atS hg (hr.mono (by decide)) (b_Board__up T) .nil (takes_of rfl rfl rfl rfl)) T.cls_Board T.m_Board__up (pv 0)) pa_nil)) (pe_fnS ((ok__law_up T).atS hg (hr.mono (by decide)) (b__law_up T) .nil (takes_of rfl rfl rfl rfl)) rfl T.g__law_up T.F__law_up.kp (pa_cons (pv 1) pa_nil)) (nomark _)) (pe_one (pe_cmpR (kx_eq (K := K) rfl hr) (pe_mS0 ((ok_Board__size T).atS hg (hr.mono (by decide)) (b_Board__size T) .nil (takes_of rfl rfl rfl rfl)) T.cls_Board T.m_Board__size (pv 0)) (pe_callB (kx_len (K := K) rfl) (by rfl) T.z_len bt_len (pa_cons (pv 1) pa_nil)) (nomark _)))))), ?_⟩
    exact ⟨_, fun x => (simS_ret le_none (sim_andV (sim_callB (cb_isC (fs := fs_Board K cl) (r := (k_Board K cl)) (fun _ => rfl) T.cls_Board T.ty_Board T.cq) (simA_cons (sim_var (i := 0) (r := (k_Board K cl)) (x := x.1) rfl) (simA_cons (sim_cls (C := cl.Board)) simA_nil))) (sim_andV (sim_op os_eqP (sim_co (sim_callB cb_sortedT (simA_cons (sim_co (sim_ms (cal_lift (w := w_Board__up K cl)) (rc_Board_up (cl := cl)) (sim_var (i := 0) (r := (k_Board K cl)) (x := x.1) rfl) simA_nil) co_XT) simA_nil)) (co_LP co_I)) (sim_co (sim_call (cal_lift (w := w__law_up K cl)) (simA_cons (sim_var (i := 1) (r := (kL kI)) (x := x.2.1) rfl) simA_nil)) (co_LP co_I))) (sim_op os_eqI (sim_ms (cal_lift (w := w_Board__size K cl)) (rc_Board_size (cl := cl)) (sim_var (i := 0) (r := (k_Board K cl)) (x := x.1) rfl) simA_nil) (sim_callB cb_lenL (simA_cons (sim_var (i := 1) (r := (kL kI)) (x := x.2.1) rfl) simA_nil)))))), fun _ _ _ _ h => h⟩)
def w_Flip__width (K : PySem.W.Frag) (cl : Cl) : (Nat × Nat) × Unit → W K Int := fun x => outW (bnd (bnd (bnd (ret (1 : Int)) fun p8 => (bnd (bnd (bnd (bnd (bnd (ret x.1) fun x => ret (x.1 : Int)) fun v1 => (bnd (bnd (ret x.1) fun x => ret (x.2 : Int)) fun v2 => (ret (Builtin.bitOr v1 v2)))) fun v3 => (ret ((Builtin.Int.intBits v3 : Nat) : Int))) fun p6 => (bnd (ret ()) fun p7 => (ret (p6, p7)))) fun p9 => (ret (p8, p9)))) fun y5 => (ret (max y5.1 y5.2.1))) fun v10 => (ret (Flow.rt v10))) none
abbrev sp_Flip__width (K : PySem.W.Frag) (cl : Cl) : Sp := lift K (fun x : (Nat × Nat) × Unit => [(k_Flip K cl) x.1]) kI (w_Flip__width K cl)
theorem ok_Flip__width (T : Tx K mg cl) : FnG P w K mg base 1 T.a_Flip__width T.fd_Flip__width ["self"] (sp_Flip__width K cl) :=
  okL T.F_Flip__width sc_Flip__width (fun _ => rfl) none (fun y e => nomatch e) (fun cdv A outer s H E hg hr => by
    refine ⟨_, pss_one (ps_ret (pe_callB (call_max2 rfl) (by rfl) T.z_max bt_max (pa_cons (pe_int) (pa_cons (pe_bits (pe_op op_or (pe_fldK (K := K) rfl (pv 0)) (pe_fldK (K := K) rfl (pv 0)))) pa_nil)))), ?_⟩
    exact ⟨_, fun x => (simS_ret le_none (sim_callB cb_max2 (simA_cons sim_i (simA_cons (sim_bits (sim_op os_I0 (sim_fld (fs := fs_Flip K cl) (s := kI) (fun x => (x.1 : Int)) (fun _ => rfl) (fun _ => fl_Flip_test_mask) T.cls_Flip T.no_Flip_test_mask (sim_var (i := 0) (r := (k_Flip K cl)) (x := x.1) rfl)) (sim_fld (fs := fs_Flip K cl) (s := kI) (fun x => (x.2 : Int)) (fun _ => rfl) (fun _ => fl_Flip_toggle_mask) T.cls_Flip T.no_Flip_toggle_mask (sim_var (i := 0) (r := (k_Flip K cl)) (x := x.1) rfl)))) simA_nil)))), fun _ _ _ _ h => h⟩)
def w_require_fit (K : PySem.W.Frag) (cl : Cl) : (Nat × Nat) × Int × Unit → W K Unit := fun x => outW (bnd (bnd (bnd (ret x.1) fun p3 => (wRcv (fun _ => True) (bnd (ret ()) fun p1 => (w_Flip__width K cl (p3, p1))))) fun v4 => (bnd (ret x.2.1) fun v5 => (ret (decide (v5 < v4))))) fun v11 => (wIf v11 (bnd (bnd (bnd (ret x.1) fun p8 => (wRcv (fun _ => True) (bnd (ret ()) fun p6 => (w_Flip__width K cl (p8, p6))))) fun p9 => (bnd (ret ()) fun p10 => (ret (p9, p10)))) fun (y : Int × Unit) => (wRaise (cl.TooWide, [("needed", kI y.1)]))) (ret (Flow.nx ())))) (some ())
abbrev sp_require_fit (K : PySem.W.Frag) (cl : Cl) : Sp := lift K (fun x : (Nat × Nat) × Int × Unit => [(k_Flip K cl) x.1, kI x.2.1]) kN (w_require_fit K cl)
theorem ok_require_fit (T : Tx K mg cl) : FnG P w K mg base 2 T.a_require_fit T.fd_require_fit ["flip", "size"] (sp_require_fit K cl) :=
  okL T.F_require_fit sc_require_fit (fun _ => rfl) (some ()) (fun y e => by cases e; rfl) (fun cdv A outer s H E hg hr => by
    refine ⟨_, pss_one (ps_if (pt_cmpR op_gt (pe_mS0 ((ok_Flip__width T).atS hg (hr.mono (by decide)) (b_Flip__width T) .nil (takes_of rfl rfl rfl rfl)) T.cls_Flip T.m_Flip__width (pv 0)) (pv 1) (nomark _)) (pss_one (ps_err (k := 0) rfl T.e_TooWide er_rel1 (hr.mono (by decide)) (takes_of rfl rfl rfl rfl) (pa_cons (pe_mS0 ((ok_Flip__width T).atS hg (hr.mono (by decide)) (b_Flip__width T) .nil (takes_of rfl rfl rfl rfl)) T.cls_Flip T.m_Flip__width (pv 0)) pa_nil) rfl)) pss_nil), ?_⟩
    exact ⟨_, fun x => (simS_if le_none (simB_test (sim_op os_B0 (sim_ms (cal_lift (w := w_Flip__width K cl)) (rc_Flip_width (cl := cl)) (sim_var (i := 0) (r := (k_Flip K cl)) (x := x.1) rfl) simA_nil) (sim_var (i := 1) (r := kI) (x := x.2.1) rfl))) (simS_raise le_none (simA_cons (sim_ms (cal_lift (w := w_Flip__width K cl)) (rc_Flip_width (cl := cl)) (sim_var (i := 0) (r := (k_Flip K cl)) (x := x.1) rfl) simA_nil) simA_nil) (fun (y : Int × Unit) => [("needed", kI y.1)]) (by rintro y Z H vs ⟨v, _, rfl, h, rfl⟩; exact ⟨v, [], rfl, rfl, v, [], rfl, h, rfl⟩)) (simS_next (simS_end (.no (.no .nil))))), fun _ _ _ _ h => h⟩)
def w_board_of (K : PySem.W.Frag) (cl : Cl) : Int × Int × Unit → W K (Nat × Nat) := fun x => outW (bnd (bnd (bnd (bnd (bnd (ret x.1) fun v1 => (ret (PyData.int v1))) fun p12 => (bnd (ret ()) fun p13 => (ret (p12, p13)))) fun p9 => (bnd (bnd (bnd (bnd (bnd (bnd (ret x.2.1) fun p5 => (bnd (ret ()) fun p6 => (ret (p5, p6)))) fun p2 => (w_cells_in K cl p2)) fun v7 => (ret v7)) fun v8 => (ret ((fun xs => PyData.tuple (xs.map PyData.int)) v8))) fun p14 => (bnd (ret ()) fun p15 => (ret (p14, p15)))) fun p10 => (wMk cl.Board (w_Board____init__ K cl) ((fun (x : PyData × Unit) (y : PyData × Unit) => (x.1, y.1, ())) p9 p10)))) (wFrz cl.Board (fs_Board K cl))) fun v16 => (ret (Flow.rt v16))) none
abbrev sp_board_of (K : PySem.W.Frag) (cl : Cl) : Sp := lift K (fun x : Int × Int × Unit => [kI x.1, kI x.2.1]) (k_Board K cl) (w_board_of K cl)
theorem ok_board_of (T : Tx K mg cl) : FnG P w K mg base 7 T.a_board_of T.fd_board_of ["size", "mask"] (sp_board_of K cl) :=
  okL T.F_board_of sc_board_of (fun _ => rfl) none (fun y e => nomatch e) (fun cdv A outer s H E hg hr => by
    refine ⟨_, pss_one (ps_ret (pe_fnKS ((ok_Board____init__ T).makeK T.mk_Board hg (hr.mono (by decide)) (kb_Board____init____2_up T) (takes_of rfl rfl rfl rfl)) rfl T.gc_Board T.mk_Board.kp (pa_cons (pv 0) pa_nil) (pk_cons (pe_fnS ((ok_cells_in T).atS hg (hr.mono (by decide)) (b_cells_in T) .nil (takes_of rfl rfl rfl rfl)) rfl T.g_cells_in T.F_cells_in.kp (pa_cons (pv 1) pa_nil)) pk_nil))), ?_⟩
    exact ⟨_, fun x => (simS_ret le_none (sim_frz (fs := fs_Board K cl) (r := (k_Board K cl)) (fun _ => rfl) (sim_callK (cal_mkK (δ' := fun x : PyData × PyData × Unit => [kPy x.1, kPy x.2.1]) (w := w_Board____init__ K cl) (fun (x : PyData × Unit) (y : PyData × Unit) => (x.1, y.1, ())) (by rintro Z H x y vs zs v ⟨_, _, rfl, a0, rfl⟩ ⟨_, _, rfl, a1, rfl⟩; exact ⟨_, rfl, _, _, rfl, a0, _, _, rfl, a1, rfl⟩)) (simA_cons (sim_co (sim_var (i := 0) (r := kI) (x := x.1) rfl) co_I) simA_nil) (simA_cons (sim_co (sim_co (sim_call (cal_lift (w := w_cells_in K cl)) (simA_cons (sim_var (i := 1) (r := kI) (x := x.2.1) rfl) simA_nil)) co_XT) (co_TP co_I)) simA_nil)))), fun _ _ _ _ h => h⟩)
def w_mask_after (K : PySem.W.Frag) (cl : Cl) : Int × (Nat × Nat) × Unit → W K Int := fun x => outW (bnd (bnd (bnd (bnd (ret x.1) fun v1 => (bnd (bnd (ret x.2.1) fun x => ret (x.1 : Int)) fun v2 => (ret (Builtin.bitAnd v1 v2)))) fun p6 => (bnd (ret ()) fun p7 => (ret (p6, p7)))) fun p3 => (w_is_odd K cl p3)) fun v12 => (wIf v12 (bnd (bnd (ret x.1) fun v8 => (bnd (bnd (ret x.2.1) fun x => ret (x.2 : Int)) fun v9 => (ret (Builtin.bitXor v8 v9)))) fun v10 => (ret (Flow.rt v10))) (bnd (ret x.1) fun v11 => (ret (Flow.rt v11))))) none
abbrev sp_mask_after (K : PySem.W.Frag) (cl : Cl) : Sp := lift K (fun x : Int × (Nat × Nat) × Unit => [kI x.1, (k_Flip K cl) x.2.1]) kI (w_mask_after K cl)
theorem ok_mask_after (T : Tx K mg cl) : FnG P w K mg base 2 T.a_mask_after T.fd_mask_after ["up_mask", "flip"] (sp_mask_after K cl) :=
  okL T.F_mask_after sc_mask_after (fun _ => rfl) none (fun y e => nomatch e) (fun cdv A outer s H E hg hr => by
    refine ⟨_, pss_cons (ps_if (pt_val (pe_fnS ((ok_is_odd T).atS hg (hr.mono (by decide)) (b_is_odd T) .nil (takes_of rfl rfl rfl rfl)) rfl T.g_is_odd T.F_is_odd.kp (pa_cons (pe_op op_and (pv 0) (pe_fldK (K := K) rfl (pv 1))) pa_nil))) (pss_one (ps_ret (pe_op op_xor (pv 0) (pe_fldK (K := K) rfl (pv 1))))) pss_nil)
    (pss_one (ps_ret (pv 0))), ?_⟩
    exact ⟨_, fun x => (simS_seq (simS_if le_none (simB_B (sim_call (cal_lift (w := w_is_odd K cl)) (simA_cons (sim_op os_I0 (sim_var (i := 0) (r := kI) (x := x.1) rfl) (sim_fld (fs := fs_Flip K cl) (s := kI) (fun x => (x.1 : Int)) (fun _ => rfl) (fun _ => fl_Flip_test_mask) T.cls_Flip T.no_Flip_test_mask (sim_var (i := 1) (r := (k_Flip K cl)) (x := x.2.1) rfl))) simA_nil))) (simS_ret le_none (sim_op os_I0 (sim_var (i := 0) (r := kI) (x := x.1) rfl) (sim_fld (fs := fs_Flip K cl) (s := kI) (fun x => (x.2 : Int)) (fun _ => rfl) (fun _ => fl_Flip_toggle_mask) T.cls_Flip T.no_Flip_toggle_mask (sim_var (i := 1) (r := (k_Flip K cl)) (x := x.2.1) rfl)))) (simS_next (simS_ret le_none (sim_var (i := 0) (r := kI) (x := x.1) rfl))))), fun _ _ _ _ h => h⟩)
def w_apply_flip (K : PySem.W.Frag) (cl : Cl) : (Nat × Nat) × (Nat × Nat) × Unit → W K (Nat × Nat) := fun x => outW (bnd (bnd (bnd (ret x.2.1) fun p9 => (bnd (bnd (bnd (ret x.1) fun p3 => (wRcv (fun _ => True) (bnd (ret ()) fun p1 => (w_Board__size K cl (p3, p1))))) fun p7 => (bnd (ret ()) fun p8 => (ret (p7, p8)))) fun p10 => (ret (p9, p10)))) fun p4 => (w_require_fit K cl p4)) fun _ => (bnd (bnd (bnd (bnd (ret x.1) fun p13 => (wRcv (fun _ => True) (bnd (ret ()) fun p11 => (w_Board__size K cl (p13, p11))))) fun p26 => (bnd (bnd (bnd (bnd (bnd (ret x.1) fun x => ret (x.2 : Int)) fun p19 => (bnd (bnd (ret x.2.1) fun p17 => (bnd (ret ()) fun p18 => (ret (p17, p18)))) fun p20 => (ret (p19, p20)))) fun p14 => (w_mask_after K cl p14)) fun p24 => (bnd (ret ()) fun p25 => (ret (p24, p25)))) fun p27 => (ret (p26, p27)))) fun p21 => (w_board_of K cl p21)) fun v28 => (ret (Flow.rt v28)))) none
abbrev sp_apply_flip (K : PySem.W.Frag) (cl : Cl) : Sp := lift K (fun x : (Nat × Nat) × (Nat × Nat) × Unit => [(k_Board K cl) x.1, (k_Flip K cl) x.2.1]) (k_Board K cl) (w_apply_flip K cl)
theorem ok_apply_flip (T : Tx K mg cl) : FnG P w K mg base 8 T.a_apply_flip T.fd_apply_flip ["board", "flip"] (sp_apply_flip K cl) :=
  okL T.F_apply_flip sc_apply_flip (fun _ => rfl) none (fun y e => nomatch e) (fun cdv A outer s H E hg hr => by
    refine ⟨_, pss_cons (ps_expr (pe_fnS ((ok_require_fit T).atS hg (hr.mono (by decide)) (b_require_fit T) .nil (takes_of rfl rfl rfl rfl)) rfl T.g_require_fit T.F_require_fit.kp (pa_cons (pv 1) (pa_cons (pe_mS0 ((ok_Board__size T).atS hg (hr.mono (by decide)) (b_Board__size T) .nil (takes_of rfl rfl rfl rfl)) T.cls_Board T.m_Board__size (pv 0)) pa_nil))))
    (pss_one (ps_ret (pe_fnS ((ok_board_of T).atS hg (hr.mono (by decide)) (b_board_of T) .nil (takes_of rfl rfl rfl rfl)) rfl T.g_board_of T.F_board_of.kp (pa_cons (pe_mS0 ((ok_Board__size T).atS hg (hr.mono (by decide)) (b_Board__size T) .nil (takes_of rfl rfl rfl rfl)) T.cls_Board T.m_Board__size (pv 0)) (pa_cons (pe_fnS ((ok_mask_after T).atS hg (hr.mono (by decide)) (b_mask_after T) .nil (takes_of rfl rfl rfl rfl)) rfl T.g_mask_after T.F_mask_after.kp (pa_cons (pe_fldK (K := K) rfl (pv 0)) (pa_cons (pv 1) pa_nil))) pa_nil))))), ?_⟩
    exact ⟨_, fun x => (simS_seq (simS_drop le_none (sim_call (cal_lift (w := w_require_fit K cl)) (simA_cons (sim_var (i := 1) (r := (k_Flip K cl)) (x := x.2.1) rfl) (simA_cons (sim_ms (cal_lift (w := w_Board__size K cl)) (rc_Board_size (cl := cl)) (sim_var (i := 0) (r := (k_Board K cl)) (x := x.1) rfl) simA_nil) simA_nil))) (simS_ret le_none (sim_call (cal_lift (w := w_board_of K cl)) (simA_cons (sim_ms (cal_lift (w := w_Board__size K cl)) (rc_Board_size (cl := cl)) (sim_var (i := 0) (r := (k_Board K cl)) (x := x.1) rfl) simA_nil) (simA_cons (sim_call (cal_lift (w := w_mask_after K cl)) (simA_cons (sim_fld (fs := fs_Board K cl) (s := kI) (fun x => (x.2 : Int)) (fun _ => rfl) (fun _ => fl_Board_up_mask) T.cls_Board T.no_Board_up_mask (sim_var (i := 0) (r := (k_Board K cl)) (x := x.1) rfl)) (simA_cons (sim_var (i := 1) (r := (k_Flip K cl)) (x := x.2.1) rfl) simA_nil))) simA_nil)))))), fun _ _ _ _ h => h⟩)
def w__law_effects_right (K : PySem.W.Frag) (cl : Cl) : Addr × Unit → W K Bool := fun x => outW (bnd (bnd (ret (3 : Int)) fun v8 => (bnd (bnd (bnd (ret x.1) fun p6 => (bnd (bnd (ret (38 : Int)) fun p4 => (bnd (ret ()) fun p5 => (ret (p4, p5)))) fun p7 => (ret (p6, p7)))) fun p1 => (w__law_draw K cl p1)) fun v9 => (ret (v8 + v9)))) fun (width_10 : Int) => (bnd (bnd (bnd (ret x.1) fun p16 => (bnd (bnd (ret width_10) fun p14 => (bnd (ret ()) fun p15 => (ret (p14, p15)))) fun p17 => (ret (p16, p17)))) fun p11 => (w__law_bits K cl p11)) fun (bits_here_18 : List Int) => (bnd (bnd (ret (1 : Int)) fun v28 => (bnd (bnd (bnd (ret x.1) fun p26 => (bnd (bnd (bnd (ret width_10) fun v19 => (bnd (ret (1 : Int)) fun v20 => (ret (v19 - v20)))) fun p24 => (bnd (ret ()) fun p25 => (ret (p24, p25)))) fun p27 => (ret (p26, p27)))) fun p21 => (w__law_draw K cl p21)) fun v29 => (ret (v28 + v29)))) fun (near_30 : Int) => (bnd (bnd (bnd (bnd (bnd (ret (1 : Int)) fun p34 => (bnd (bnd (ret width_10) fun p32 => (bnd (ret ()) fun p33 => (ret (p32, p33)))) fun p35 => (ret (p34, p35)))) fun y31 => (wAss (-(2 ^ 62) ≤ y31.1 ∧ y31.1 < 2 ^ 62 ∧ -(2 ^ 62) ≤ y31.2.1 ∧ y31.2.1 < 2 ^ 62) (ret (rng y31.1 y31.2.1, nI)))) fun y37 => (wAss (y37.1.length ≤ 50000) (wCalm (fmapW y37.2 (fun (x36 : Int) => (bnd (ret x36) fun v38 => (bnd (ret near_30) fun v39 => (ret (!decide (v38 = v39)))))) (fun (x36 : Int) => (ret x36)) y37.1)))) fun v50 => (bnd (bnd (bnd (ret x.1) fun p48 => (bnd (bnd (bnd (ret width_10) fun v41 => (bnd (ret (2 : Int)) fun v42 => (ret (v41 - v42)))) fun p46 => (bnd (ret ()) fun p47 => (ret (p46, p47)))) fun p49 => (ret (p48, p49)))) fun p43 => (w__law_draw K cl p43)) fun v51 => (wIx v50 v51))) fun (far_52 : Int) => (bnd (bnd (bnd (bnd (bnd (ret bits_here_18) fun p54 => (bnd (ret ()) fun p55 => (ret (p54, p55)))) fun y53 => (ret y53.1)) (wThaw kI)) fun p189 => (bnd (bnd (bnd (bnd (bnd (ret bits_here_18) fun p58 => (bnd (ret ()) fun p59 => (ret (p58, p59)))) fun y57 => (ret y57.1)) (wThaw kI)) fun p187 => (bnd (bnd (bnd (bnd (bnd (ret bits_here_18) fun p62 => (bnd (ret ()) fun p63 => (ret (p62, p63)))) fun y61 => (ret y61.1)) (wThaw kI)) fun p185 => (bnd (ret ()) fun p186 => (ret (p185, p186)))) fun p188 => (ret (p187, p188)))) fun p190 => (ret (p189, p190)))) fun (y65 : Addr × Addr × Addr × Unit) => (bnd (bnd (ret (1 : Int)) fun v72 => (bnd (bnd (ret bits_here_18) fun v70 => (bnd (ret near_30) fun v71 => (wIx v70 v71))) fun v73 => (ret (v72 - v73)))) fun v66 => (bnd (ret y65.1) fun v67 => (bnd (ret near_30) fun v68 => (wSetI v67 v68 (kI v66) (bnd (bnd (bnd (bnd (ret bits_here_18) fun v78 => (bnd (ret near_30) fun v79 => (wIx v78 v79))) fun v83 => (bnd (bnd (ret bits_here_18) fun v81 => (bnd (ret far_52) fun v82 => (wIx v81 v82))) fun v84 => (ret (v83 + v84)))) fun v85 => (bnd (ret (2 : Int)) fun v86 => (wAss (0 < v86) (ret (v85 % v86))))) fun v74 => (bnd (ret y65.2.1) fun v75 => (bnd (ret far_52) fun v76 => (wSetI v75 v76 (kI v74) (bnd (bnd (bnd (bnd (ret bits_here_18) fun v88 => (bnd (ret far_52) fun v89 => (wIx v88 v89))) fun p96 => (bnd (bnd (bnd (ret bits_here_18) fun v91 => (bnd (ret near_30) fun v92 => (wIx v91 v92))) fun p94 => (bnd (ret ()) fun p95 => (ret (p94, p95)))) fun p97 => (ret (p96, p97)))) fun y93 => (ret (y93.1, y93.2.1))) fun v98 => (bnd (ret y65.2.2.1) fun v99 => (bnd (ret near_30) fun v100 => (wSetI v99 v100 (kI v98.1) (bnd (ret y65.2.2.1) fun v101 => (bnd (ret far_52) fun v102 => (wSetI v101 v102 (kI v98.2) (bnd (bnd (bnd (ret bits_here_18) fun p106 => (bnd (ret ()) fun p107 => (ret (p106, p107)))) fun p103 => (w__law_made K cl p103)) fun (board_108 : (Nat × Nat)) => (bnd (bnd (bnd (bnd (bnd (bnd (ret board_108) fun p120 => (bnd (bnd (bnd (bnd (bnd (ret near_30) fun v109 => (ret (PyData.int v109))) fun p113 => (bnd (ret ()) fun p114 => (ret (p113, p114)))) fun p110 => (w_turn_flip K cl p110)) fun p118 => (bnd (ret ()) fun p119 => (ret (p118, p119)))) fun p121 => (ret (p120, p121)))) fun p115 => (w_apply_flip K cl p115)) fun p128 => (bnd (bnd (bnd (ret y65.1) (wFrzL kI)) fun p126 => (bnd (ret ()) fun p127 => (ret (p126, p127)))) fun p129 => (ret (p128, p129)))) fun p123 => (w__law_is_so K cl p123)) fun v130 => (ret (!v130))) fun v184 => (wIf v184 (bnd (ret false) fun v131 => (ret (Flow.rt v131))) (bnd (bnd (bnd (bnd (bnd (bnd (ret board_108) fun p146 => (bnd (bnd (bnd (ret ()) fun p134 => (bnd (bnd (bnd (ret far_52) fun v132 => (ret (PyData.int v132))) fun p139 => (bnd (bnd (bnd (ret near_30) fun v133 => (ret (PyData.int v133))) fun p137 => (bnd (ret ()) fun p138 => (ret (p137, p138)))) fun p140 => (ret (p139, p140)))) fun p135 => (w_add_flip K cl ((fun (x : Unit) (y : PyData × PyData × Unit) => (y.2.1, y.1, ())) p134 p135)))) fun p144 => (bnd (ret ()) fun p145 => (ret (p144, p145)))) fun p147 => (ret (p146, p147)))) fun p141 => (w_apply_flip K cl p141)) fun p154 => (bnd (bnd (bnd (ret y65.2.1) (wFrzL kI)) fun p152 => (bnd (ret ()) fun p153 => (ret (p152, p153)))) fun p155 => (ret (p154, p155)))) fun p149 => (w__law_is_so K cl p149)) fun v156 => (ret (!v156))) fun v183 => (wIf v183 (bnd (ret false) fun v157 => (ret (Flow.rt v157))) (bnd (bnd (bnd (bnd (bnd (ret board_108) fun p172 => (bnd (bnd (bnd (ret ()) fun p160 => (bnd (bnd (bnd (ret far_52) fun v158 => (ret (PyData.int v158))) fun p165 => (bnd (bnd (bnd (ret near_30) fun v159 => (ret (PyData.int v159))) fun p163 => (bnd (ret ()) fun p164 => (ret (p163, p164)))) fun p166 => (ret (p165, p166)))) fun p161 => (w_swap_flip K cl ((fun (x : Unit) (y : PyData × PyData × Unit) => (y.2.1, y.1, ())) p160 p161)))) fun p170 => (bnd (ret ()) fun p171 => (ret (p170, p171)))) fun p173 => (ret (p172, p173)))) fun p167 => (w_apply_flip K cl p167)) fun p180 => (bnd (bnd (bnd (ret y65.2.2.1) (wFrzL kI)) fun p178 => (bnd (ret ()) fun p179 => (ret (p178, p179)))) fun p181 => (ret (p180, p181)))) fun p175 => (w__law_is_so K cl p175)) fun v182 => (ret (Flow.rt v182)))))))))))))))))))))))))))) none
abbrev sp__law_effects_right (K : PySem.W.Frag) (cl : Cl) : Sp := lift K (fun x : Addr × Unit => [kRef x.1]) kB (w__law_effects_right K cl)
theorem ok__law_effects_right (T : Tx K mg cl) : FnG P w K mg base 9 T.a__law_effects_right T.fd__law_effects_right ["_law_pot_here"] (sp__law_effects_right K cl) :=
  okL T.F__law_effects_right sc__law_effects_right (fun _ => rfl) none (fun y e => nomatch e) (fun cdv A outer s H E hg hr => by
    refine ⟨_, pss_cons (ps_set (i := 1) sc__law_effects_right.nd rfl (by first | exact Or.inl rfl | exact Or.inr rfl) (pe_op (kx_add (K := K) rfl) (pe_int) (pe_fnS ((ok__law_draw T).atS hg (hr.mono (by decide)) (b__law_draw T) .nil (takes_of rfl rfl rfl rfl)) rfl T.g__law_draw T.F__law_draw.kp (pa_cons (pv 0) (pa_cons (pe_int) pa_nil)))))
    (pss_cons (ps_set (i := 2) sc__law_effects_right.nd rfl (by first | exact Or.inl rfl | exact Or.inr rfl) (pe_fnS ((ok__law_bits T).atS hg (hr.mono (by decide)) (b__law_bits T) .nil (takes_of rfl rfl rfl rfl)) rfl T.g__law_bits T.F__law_bits.kp (pa_cons (pv 0) (pa_cons (pv 1) pa_nil))))
    (pss_cons (ps_set (i := 3) sc__law_effects_right.nd rfl (by first | exact Or.inl rfl | exact Or.inr rfl) (pe_op (kx_add (K := K) rfl) (pe_int) (pe_fnS ((ok__law_draw T).atS hg (hr.mono (by decide)) (b__law_draw T) .nil (takes_of rfl rfl rfl rfl)) rfl T.g__law_draw T.F__law_draw.kp (pa_cons (pv 0) (pa_cons (pe_op op_sub (pv 1) (pe_int)) pa_nil)))))
    (pss_cons (ps_set (i := 4) sc__law_effects_right.nd rfl (by first | exact Or.inl rfl | exact Or.inr rfl) (pe_ix (kx_ix (K := K) rfl) (pe_lc (own := [("_law_spot", 5)]) (g := gName 5)  rfl sc__law_effects_right.nd (pi_range2 rfl T.z_range (pa_cons (pe_int) (pa_cons (pv 1) pa_nil))) (blkOk_by (own := [("_law_spot", 5)]) (N := N__law_effects_right) (sc := defScope st__law_effects_right) (by decide +kernel)) (fun _ _ _ _ _ => pg_name (i := 5) sc__law_effects_right.nd rfl (by first | exact Or.inl rfl | exact Or.inr rfl)) (fun _ _ _ _ _ => pts_one (pt_cmpR (kx_ne (K := K) rfl hr) (pv 5) (pv 3) (nomark _))) (fun _ _ _ _ _ => pv 5)) (pe_fnS ((ok__law_draw T).atS hg (hr.mono (by decide)) (b__law_draw T) .nil (takes_of rfl rfl rfl rfl)) rfl T.g__law_draw T.F__law_draw.kp (pa_cons (pv 0) (pa_cons (pe_op op_sub (pv 1) (pe_int)) pa_nil))) (fun _ _ => rfl)))
    (pss_cons (ps_par3 (i := 6) (j := 7) (l := 8) (by rfl) sc__law_effects_right.nd rfl rfl rfl (by decide) (by decide) (by decide) rfl rfl rfl (pa_cons (pe_callTy (kx_list (K := K) rfl) (by rfl) T.z_list bt_list (pa_cons (pv 2) pa_nil)) (pa_cons (pe_callTy (kx_list (K := K) rfl) (by rfl) T.z_list bt_list (pa_cons (pv 2) pa_nil)) (pa_cons (pe_callTy (kx_list (K := K) rfl) (by rfl) T.z_list bt_list (pa_cons (pv 2) pa_nil)) pa_nil))) (by rfl))
    (pss_cons (ps_asg (pe_op op_sub (pe_int) (pe_ix (kx_ix (K := K) rfl) (pv 2) (pv 3) (fun _ _ => rfl))) (pg_sub (pv 6) (pv 3) set_list))
    (pss_cons (ps_asg (pe_op op_modA (pe_op (kx_add (K := K) rfl) (pe_ix (kx_ix (K := K) rfl) (pv 2) (pv 3) (fun _ _ => rfl)) (pe_ix (kx_ix (K := K) rfl) (pv 2) (pv 4) (fun _ _ => rfl))) (pe_int)) (pg_sub (pv 7) (pv 4) set_list))
    (pss_cons (ps_asg (pe_tup (pa_cons (pe_ix (kx_ix (K := K) rfl) (pv 2) (pv 4) (fun _ _ => rfl)) (pa_cons (pe_ix (kx_ix (K := K) rfl) (pv 2) (pv 3) (fun _ _ => rfl)) pa_nil))) (pg_tupK (K := K) rfl rfl (pgs_cons (pg_sub (pv 8) (pv 3) set_list) (pgs_cons (pg_sub (pv 8) (pv 4) set_list) pgs_nil))))
    (pss_cons (ps_set (i := 9) sc__law_effects_right.nd rfl (by first | exact Or.inl rfl | exact Or.inr rfl) (pe_fnS ((ok__law_made T).atS hg (hr.mono (by decide)) (b__law_made T) .nil (takes_of rfl rfl rfl rfl)) rfl T.g__law_made T.F__law_made.kp (pa_cons (pv 2) pa_nil)))
    (pss_cons (ps_if (pt_not (pt_val (pe_fnS ((ok__law_is_so T).atS hg (hr.mono (by decide)) (b__law_is_so T) .nil (takes_of rfl rfl rfl rfl)) rfl T.g__law_is_so T.F__law_is_so.kp (pa_cons (pe_fnS ((ok_apply_flip T).atS hg (hr.mono (by decide)) (b_apply_flip T) .nil (takes_of rfl rfl rfl rfl)) rfl T.g_apply_flip T.F_apply_flip.kp (pa_cons (pv 9) (pa_cons (pe_fnS ((ok_turn_flip T).atS hg (hr.mono (by decide)) (b_turn_flip T) .nil (takes_of rfl rfl rfl rfl)) rfl T.g_turn_flip T.F_turn_flip.kp (pa_cons (pv 3) pa_nil)) pa_nil))) (pa_cons (pv 6) pa_nil))))) (pss_one (ps_ret (pe_bl))) pss_nil)
    (pss_cons (ps_if (pt_not (pt_val (pe_fnS ((ok__law_is_so T).atS hg (hr.mono (by decide)) (b__law_is_so T) .nil (takes_of rfl rfl rfl rfl)) rfl T.g__law_is_so T.F__law_is_so.kp (pa_cons (pe_fnS ((ok_apply_flip T).atS hg (hr.mono (by decide)) (b_apply_flip T) .nil (takes_of rfl rfl rfl rfl)) rfl T.g_apply_flip T.F_apply_flip.kp (pa_cons (pv 9) (pa_cons (pe_fnKS0 ((ok_add_flip T).atKS hg (hr.mono (by decide)) (kb_add_flip__0_to_cell T) (takes_of rfl rfl rfl rfl)) rfl T.g_add_flip T.F_add_flip.kp (pk_cons (pv 4) (pk_cons (pv 3) pk_nil))) pa_nil))) (pa_cons (pv 7) pa_nil))))) (pss_one (ps_ret (pe_bl))) pss_nil)
    (pss_one (ps_ret (pe_fnS ((ok__law_is_so T).atS hg (hr.mono (by decide)) (b__law_is_so T) .nil (takes_of rfl rfl rfl rfl)) rfl T.g__law_is_so T.F__law_is_so.kp (pa_cons (pe_fnS ((ok_apply_flip T).atS hg (hr.mono (by decide)) (b_apply_flip T) .nil (takes_of rfl rfl rfl rfl)) rfl T.g_apply_flip T.F_apply_flip.kp (pa_cons (pv 9) (pa_cons (pe_fnKS0 ((ok_swap_flip T).atKS hg (hr.mono (by decide)) (kb_swap_flip__0_other_one T) (takes_of rfl rfl rfl rfl)) rfl T.g_swap_flip T.F_swap_flip.kp (pk_cons (pv 4) (pk_cons (pv 3) pk_nil))) pa_nil))) (pa_cons (pv 8) pa_nil))))))))))))))), ?_⟩
    exact ⟨_, fun x => (simS_seq (simS_asg simG_name le_none (sim_op os_add sim_i (sim_call (cal_lift (w := w__law_draw K cl)) (simA_cons (sim_var (i := 0) (r := kRef) (x := x.1) rfl) (simA_cons sim_i simA_nil)))) (fun (width_10 : Int) => (show SimS _ _ ([some (kRef x.1), some (kI width_10), none, none, none, none, none, none, none, none] : Gm K) _ _ _ _ from (simS_seq (simS_asg simG_name le_none (sim_call (cal_lift (w := w__law_bits K cl)) (simA_cons (sim_var (i := 0) (r := kRef) (x := x.1) rfl) (simA_cons (sim_var (i := 1) (r := kI) (x := width_10) rfl) simA_nil))) (fun (bits_here_18 : List Int) => (show SimS _ _ ([some (kRef x.1), some (kI width_10), some ((kL kI) bits_here_18), none, none, none, none, none, none, none] : Gm K) _ _ _ _ from (simS_seq (simS_asg simG_name le_none (sim_op os_add sim_i (sim_call (cal_lift (w := w__law_draw K cl)) (simA_cons (sim_var (i := 0) (r := kRef) (x := x.1) rfl) (simA_cons (sim_op os_I0 (sim_var (i := 1) (r := kI) (x := width_10) rfl) sim_i) simA_nil)))) (fun (near_30 : Int) => (show SimS _ _ ([some (kRef x.1), some (kI width_10), some ((kL kI) bits_here_18), some (kI near_30), none, none, none, none, none, none] : Gm K) _ _ _ _ from (simS_seq (simS_asg simG_name le_none (sim_op os_ixL (sim_lc (simI_r2 (simA_cons sim_i (simA_cons (sim_var (i := 1) (r := kI) (x := width_10) rfl) simA_nil))) simG_name (fun _ _ hy => hy) (fun (x36 : Int) => (simB_test (sim_op os_neI (sim_var (i := 5) (r := kI) (x := x36) rfl) (sim_var (i := 3) (r := kI) (x := near_30) rfl)))) (fun (x36 : Int) => (sim_var (i := 5) (r := kI) (x := x36) rfl))) (sim_call (cal_lift (w := w__law_draw K cl)) (simA_cons (sim_var (i := 0) (r := kRef) (x := x.1) rfl) (simA_cons (sim_op os_I0 (sim_var (i := 1) (r := kI) (x := width_10) rfl) sim_i) simA_nil)))) (fun (far_52 : Int) => (show SimS _ _ ([some (kRef x.1), some (kI width_10), some ((kL kI) bits_here_18), some (kI near_30), some (kI far_52), none, none, none, none, none] : Gm K) _ _ _ _ from (simS_seq (simS_par3 (r := kRef) (s := kRef) (t := kRef) le_none (simA_cons (sim_thaw (simN_callB cn_listL (simA_cons (sim_var (i := 2) (r := (kL kI)) (x := bits_here_18) rfl) simA_nil))) (simA_cons (sim_thaw (simN_callB cn_listL (simA_cons (sim_var (i := 2) (r := (kL kI)) (x := bits_here_18) rfl) simA_nil))) (simA_cons (sim_thaw (simN_callB cn_listL (simA_cons (sim_var (i := 2) (r := (kL kI)) (x := bits_here_18) rfl) simA_nil))) simA_nil))) (fun (y65 : Addr × Addr × Addr × Unit) => (show SimS _ _ ([some (kRef x.1), some (kI width_10), some ((kL kI) bits_here_18), some (kI near_30), some (kI far_52), none, some (kRef y65.1), some (kRef y65.2.1), some (kRef y65.2.2.1), none] : Gm K) _ _ _ _ from (simS_seq (simS_setI (r := kI) le_none (sim_op os_I0 sim_i (sim_op os_ixL (sim_var (i := 2) (r := (kL kI)) (x := bits_here_18) rfl) (sim_var (i := 3) (r := kI) (x := near_30) rfl))) (sim_var (i := 6) (r := kRef) (x := y65.1) rfl) (sim_var (i := 3) (r := kI) (x := near_30) rfl) (simS_seq (simS_setI (r := kI) le_none (sim_op os_I (sim_op os_add (sim_op os_ixL (sim_var (i := 2) (r := (kL kI)) (x := bits_here_18) rfl) (sim_var (i := 3) (r := kI) (x := near_30) rfl)) (sim_op os_ixL (sim_var (i := 2) (r := (kL kI)) (x := bits_here_18) rfl) (sim_var (i := 4) (r := kI) (x := far_52) rfl))) sim_i) (sim_var (i := 7) (r := kRef) (x := y65.2.1) rfl) (sim_var (i := 4) (r := kI) (x := far_52) rfl) (simS_seq (simS_swap (r := kI) (s := kI) le_none (sim_pair (simA_cons (sim_op os_ixL (sim_var (i := 2) (r := (kL kI)) (x := bits_here_18) rfl) (sim_var (i := 4) (r := kI) (x := far_52) rfl)) (simA_cons (sim_op os_ixL (sim_var (i := 2) (r := (kL kI)) (x := bits_here_18) rfl) (sim_var (i := 3) (r := kI) (x := near_30) rfl)) simA_nil))) (sim_var (i := 8) (r := kRef) (x := y65.2.2.1) rfl) (sim_var (i := 3) (r := kI) (x := near_30) rfl) (sim_var (i := 8) (r := kRef) (x := y65.2.2.1) rfl) (sim_var (i := 4) (r := kI) (x := far_52) rfl) (simS_seq (simS_asg simG_name le_none (sim_call (cal_lift (w := w__law_made K cl)) (simA_cons (sim_var (i := 2) (r := (kL kI)) (x := bits_here_18) rfl) simA_nil)) (fun (board_108 : (Nat × Nat)) => (show SimS _ _ ([some (kRef x.1), some (kI width_10), some ((kL kI) bits_here_18), some (kI near_30), some (kI far_52), none, some (kRef y65.1), some (kRef y65.2.1), some (kRef y65.2.2.1), some ((k_Board K cl) board_108)] : Gm K) _ _ _ _ from (simS_seq (simS_if le_none (simB_not (simB_B (sim_call (cal_lift (w := w__law_is_so K cl)) (simA_cons (sim_call (cal_lift (w := w_apply_flip K cl)) (simA_cons (sim_var (i := 9) (r := (k_Board K cl)) (x := board_108) rfl) (simA_cons (sim_call (cal_lift (w := w_turn_flip K cl)) (simA_cons (sim_co (sim_var (i := 3) (r := kI) (x := near_30) rfl) co_I) simA_nil)) simA_nil))) (simA_cons (sim_frzL (r := kI) (sim_var (i := 6) (r := kRef) (x := y65.1) rfl)) simA_nil))))) (simS_ret le_none sim_b) (simS_next (simS_seq (simS_if le_none (simB_not (simB_B (sim_call (cal_lift (w := w__law_is_so K cl)) (simA_cons (sim_call (cal_lift (w := w_apply_flip K cl)) (simA_cons (sim_var (i := 9) (r := (k_Board K cl)) (x := board_108) rfl) (simA_cons (sim_callK (cal_liftK (δ' := fun x : PyData × PyData × Unit => [kPy x.1, kPy x.2.1]) (w := w_add_flip K cl) (fun (x : Unit) (y : PyData × PyData × Unit) => (y.2.1, y.1, ())) (by rintro Z H x y vs zs rfl ⟨_, _, rfl, a0, _, _, rfl, a1, rfl⟩; exact ⟨_, _, rfl, a1, _, _, rfl, a0, rfl⟩)) simA_nil (simA_cons (sim_co (sim_var (i := 4) (r := kI) (x := far_52) rfl) co_I) (simA_cons (sim_co (sim_var (i := 3) (r := kI) (x := near_30) rfl) co_I) simA_nil))) simA_nil))) (simA_cons (sim_frzL (r := kI) (sim_var (i := 7) (r := kRef) (x := y65.2.1) rfl)) simA_nil))))) (simS_ret le_none sim_b) (simS_next (simS_ret le_none (sim_call (cal_lift (w := w__law_is_so K cl)) (simA_cons (sim_call (cal_lift (w := w_apply_flip K cl)) (simA_cons (sim_var (i := 9) (r := (k_Board K cl)) (x := board_108) rfl) (simA_cons (sim_callK (cal_liftK (δ' := fun x : PyData × PyData × Unit => [kPy x.1, kPy x.2.1]) (w := w_swap_flip K cl) (fun (x : Unit) (y : PyData × PyData × Unit) => (y.2.1, y.1, ())) (by rintro Z H x y vs zs rfl ⟨_, _, rfl, a0, _, _, rfl, a1, rfl⟩; exact ⟨_, _, rfl, a1, _, _, rfl, a0, rfl⟩)) simA_nil (simA_cons (sim_co (sim_var (i := 4) (r := kI) (x := far_52) rfl) co_I) (simA_cons (sim_co (sim_var (i := 3) (r := kI) (x := near_30) rfl) co_I) simA_nil))) simA_nil))) (simA_cons (sim_frzL (r := kI) (sim_var (i := 8) (r := kRef) (x := y65.2.2.1) rfl)) simA_nil)))))))))))))))))))))))))))))))))))))))), fun _ _ _ _ h => h⟩)
def w_law (K : PySem.W.Frag) (cl : Cl) : (List Int) × Unit → W K Bool := fun x => outW (bnd (bnd (bnd (bnd (bnd (ret (1 : Int)) fun p15 => (bnd (bnd (bnd (bnd (ret (6 : Int)) fun p10 => (bnd (bnd (bnd (bnd (ret x.1) fun p5 => (bnd (ret ()) fun p6 => (ret (p5, p6)))) fun y4 => (ret (y4.1.length : Int))) fun p8 => (bnd (ret ()) fun p9 => (ret (p8, p9)))) fun p11 => (ret (p10, p11)))) fun y7 => (ret (min y7.1 y7.2.1))) fun p13 => (bnd (ret ()) fun p14 => (ret (p13, p14)))) fun p16 => (ret (p15, p16)))) fun y12 => (ret (max y12.1 y12.2.1))) fun p17 => (bnd (ret ()) fun p18 => (ret (p17, p18)))) fun y3 => (wAss (-(2 ^ 62) ≤ y3.1 ∧ y3.1 < 2 ^ 62) (ret (rng 0 y3.1, nI)))) fun y20 => (bnd (forW y20.2 (fun (x19 : Int) (s1 : Unit) => (bnd (bnd (bnd (ret x.1) fun p26 => (bnd (bnd (ret x19) fun p24 => (bnd (ret ()) fun p25 => (ret (p24, p25)))) fun p27 => (ret (p26, p27)))) fun p21 => (w__law_pot K cl p21)) fun (pot_here_28 : Addr) => (bnd (bnd (bnd (ret (6 : Int)) fun p39 => (bnd (ret ()) fun p40 => (ret (p39, p40)))) fun y38 => (wAss (-(2 ^ 62) ≤ y38.1 ∧ y38.1 < 2 ^ 62) (ret (rng 0 y38.1, nI)))) fun y42 => (bnd (forW y42.2 (fun (x41 : Int) (s29 : Unit) => (bnd (bnd (bnd (bnd (bnd (ret pot_here_28) fun p46 => (bnd (ret ()) fun p47 => (ret (p46, p47)))) fun p43 => (w__law_one K cl p43)) fun p56 => (bnd (bnd (bnd (bnd (ret pot_here_28) fun p51 => (bnd (ret ()) fun p52 => (ret (p51, p52)))) fun p48 => (w__law_one K cl p48)) fun p54 => (bnd (ret ()) fun p55 => (ret (p54, p55)))) fun p57 => (ret (p56, p57)))) fun y53 => (ret (y53.1, y53.2.1))) fun (y58 : (PyData × PyData)) => (bnd (bnd (bnd (bnd (ret y58.1) fun p66 => (bnd (bnd (ret (1 : Int)) fun p64 => (bnd (bnd (ret (39 : Int)) fun p62 => (bnd (ret ()) fun p63 => (ret (p62, p63)))) fun p65 => (ret (p64, p65)))) fun p67 => (ret (p66, p67)))) fun p59 => (w__law_is_int K cl p59)) fun v93 => (wIf v93 (bnd (bnd (bnd (ret ("flip" : Str)) fun v75 => (ret (PyData.str v75))) fun p82 => (bnd (bnd (bnd (bnd (bnd (ret (0 : Int)) fun p70 => (bnd (ret ()) fun p71 => (ret (p70, p71)))) fun y69 => (ret ([y69.1] : List Int))) fun v76 => (ret ((fun xs => PyData.tuple (xs.map PyData.int)) v76))) fun p80 => (bnd (bnd (bnd (bnd (bnd (ret y58.1) fun p73 => (bnd (ret ()) fun p74 => (ret (p73, p74)))) fun y72 => (ret ([y72.1] : List PyData))) fun v77 => (ret ((fun xs => PyData.tuple (xs.map id)) v77))) fun p78 => (bnd (ret ()) fun p79 => (ret (p78, p79)))) fun p81 => (ret (p80, p81)))) fun p83 => (ret (p82, p83)))) fun y68 => (ret ([y68.1, y68.2.1, y68.2.2.1] : List PyData))) (bnd (bnd (bnd (ret ("cell" : Str)) fun v85 => (ret (PyData.str v85))) fun p91 => (bnd (bnd (ret y58.1) fun p89 => (bnd (bnd (bnd (ret true) fun v86 => (ret (PyData.bool v86))) fun p87 => (bnd (ret ()) fun p88 => (ret (p87, p88)))) fun p90 => (ret (p89, p90)))) fun p92 => (ret (p91, p92)))) fun y84 => (ret ([y84.1, y84.2.1, y84.2.2.1] : List PyData))))) fun (due_here_94 : List PyData) => (bnd (bnd (bnd (bnd (bnd (wLam cl.tb_law q_law (w__law_met K cl (bnd (ret ()) fun p95 => (bnd (bnd (ret y58.1) fun p98 => (bnd (ret ()) fun p99 => (ret (p98, p99)))) fun p96 => (w_turn_flip K cl ((fun (x : Unit) (y : PyData × Unit) => (y.1, ())) p95 p96)))) ((), ()))) fun v100 => (ret ((fun xs => PyData.list (xs.map id)) v100))) fun p102 => (bnd (ret ()) fun p103 => (ret (p102, p103)))) fun y101 => (wAss (Tame y101.1 40 50000) (ret y101.1.shown))) fun v108 => (bnd (bnd (bnd (bnd (ret due_here_94) fun v104 => (ret ((fun xs => PyData.list (xs.map id)) v104))) fun p106 => (bnd (ret ()) fun p107 => (ret (p106, p107)))) fun y105 => (wAss (Tame y105.1 40 50000) (ret y105.1.shown))) fun v109 => (ret (!decide (v108 = v109))))) fun v171 => (wIf v171 (bnd (ret false) fun v110 => (ret (Flow.rt v110))) (bnd (bnd (bnd (bnd (bnd (wLam cl.tb_law q_law (w__law_met K cl (bnd (bnd (ret y58.1) fun p114 => (bnd (ret ()) fun p115 => (ret (p114, p115)))) fun p111 => (bnd (bnd (ret y58.2) fun p116 => (bnd (ret ()) fun p117 => (ret (p116, p117)))) fun p112 => (w_add_flip K cl ((fun (x : PyData × Unit) (y : PyData × Unit) => (x.1, y.1, ())) p111 p112)))) ((), ()))) fun v118 => (ret ((fun xs => PyData.list (xs.map id)) v118))) fun p120 => (bnd (ret ()) fun p121 => (ret (p120, p121)))) fun y119 => (wAss (Tame y119.1 40 50000) (ret y119.1.shown))) fun v137 => (bnd (bnd (bnd (bnd (bnd (bnd (ret y58.1) fun p131 => (bnd (bnd (ret y58.2) fun p129 => (bnd (bnd (ret (0 : Int)) fun p127 => (bnd (bnd (ret false) fun p125 => (bnd (ret ()) fun p126 => (ret (p125, p126)))) fun p128 => (ret (p127, p128)))) fun p130 => (ret (p129, p130)))) fun p132 => (ret (p131, p132)))) fun p122 => (w__law_due K cl p122)) fun v133 => (ret ((fun xs => PyData.list (xs.map id)) v133))) fun p135 => (bnd (ret ()) fun p136 => (ret (p135, p136)))) fun y134 => (wAss (Tame y134.1 40 50000) (ret y134.1.shown))) fun v138 => (ret (!decide (v137 = v138))))) fun v170 => (wIf v170 (bnd (ret false) fun v139 => (ret (Flow.rt v139))) (bnd (bnd (bnd (bnd (bnd (wLam cl.tb_law q_law (w__law_met K cl (bnd (bnd (ret y58.1) fun p145 => (bnd (bnd (ret y58.2) fun p143 => (bnd (ret ()) fun p144 => (ret (p143, p144)))) fun p146 => (ret (p145, p146)))) fun p140 => (w_swap_flip K cl p140)) ((), ()))) fun v147 => (ret ((fun xs => PyData.list (xs.map id)) v147))) fun p149 => (bnd (ret ()) fun p150 => (ret (p149, p150)))) fun y148 => (wAss (Tame y148.1 40 50000) (ret y148.1.shown))) fun v166 => (bnd (bnd (bnd (bnd (bnd (bnd (ret y58.1) fun p160 => (bnd (bnd (ret y58.2) fun p158 => (bnd (bnd (ret (1 : Int)) fun p156 => (bnd (bnd (ret true) fun p154 => (bnd (ret ()) fun p155 => (ret (p154, p155)))) fun p157 => (ret (p156, p157)))) fun p159 => (ret (p158, p159)))) fun p161 => (ret (p160, p161)))) fun p151 => (w__law_due K cl p151)) fun v162 => (ret ((fun xs => PyData.list (xs.map id)) v162))) fun p164 => (bnd (ret ()) fun p165 => (ret (p164, p165)))) fun y163 => (wAss (Tame y163.1 40 50000) (ret y163.1.shown))) fun v167 => (ret (!decide (v166 = v167))))) fun v169 => (wIf v169 (bnd (ret false) fun v168 => (ret (Flow.rt v168))) (ret (Flow.nx ()))))))))))) y42.1 ()) (aft fun (s29 : Unit) => (bnd (bnd (bnd (bnd (ret pot_here_28) fun p33 => (bnd (ret ()) fun p34 => (ret (p33, p34)))) fun p30 => (w__law_effects_right K cl p30)) fun v35 => (ret (!v35))) fun v37 => (wIf v37 (bnd (ret false) fun v36 => (ret (Flow.rt v36))) (ret (Flow.nx ()))))))))) y20.1 ()) (aft fun (s1 : Unit) => (bnd (ret true) fun v2 => (ret (Flow.rt v2)))))) none
abbrev sp_law (K : PySem.W.Frag) (cl : Cl) : Sp := lift K (fun x : (List Int) × Unit => [kSc x.1]) kB (w_law K cl)
theorem ok_law (T : Tx K mg cl) : FnG P w K mg T.lb 10 T.a_law T.fd_law ["_law_script"] (sp_law K cl) :=
  okLC T.F_law T.lk_law sc_law (fun _ => rfl) none (fun y e => nomatch e) (fun A outer s H E hg hr => by
    refine ⟨_, pss_cons (ps_for (passes_of rfl) rfl (pi_range1 rfl T.z_range (pa_cons (pe_callB (call_max2 rfl) (by rfl) T.z_max bt_max (pa_cons (pe_int) (pa_cons (pe_callB (call_min2 rfl) (by rfl) T.z_min bt_min (pa_cons (pe_int) (pa_cons (pe_callB (kx_len (K := K) rfl) (by rfl) T.z_len bt_len (pa_cons (pv 0) pa_nil)) pa_nil))) pa_nil))) pa_nil)) (pg_name (i := 1) sc_law.nd rfl (by first | exact Or.inl rfl | exact Or.inr rfl))
      (pss_cons (ps_set (i := 2) sc_law.nd rfl (by first | exact Or.inl rfl | exact Or.inr rfl) (pe_fnS ((ok__law_pot T).atS hg (hr.mono (by decide)) (b__law_pot T) .nil (takes_of rfl rfl rfl rfl)) rfl T.g__law_pot T.F__law_pot.kp (pa_cons (pv 0) (pa_cons (pv 1) pa_nil))))
    (pss_cons (ps_for (passes_of rfl) rfl (pi_range1 rfl T.z_range (pa_cons (pe_int) pa_nil)) (pg_name (i := 3) sc_law.nd rfl (by first | exact Or.inl rfl | exact Or.inr rfl))
      (pss_cons (ps_asg (pe_tup (pa_cons (pe_fnS ((ok__law_one T).atS hg (hr.mono (by decide)) (b__law_one T) .nil (takes_of rfl rfl rfl rfl)) rfl T.g__law_one T.F__law_one.kp (pa_cons (pv 2) pa_nil)) (pa_cons (pe_fnS ((ok__law_one T).atS hg (hr.mono (by decide)) (b__law_one T) .nil (takes_of rfl rfl rfl rfl)) rfl T.g__law_one T.F__law_one.kp (pa_cons (pv 2) pa_nil)) pa_nil))) (pg_tupK (K := K) rfl rfl (pgs_cons (pg_name (i := 5) sc_law.nd rfl (by first | exact Or.inl rfl | exact Or.inr rfl)) (pgs_cons (pg_name (i := 6) sc_law.nd rfl (by first | exact Or.inl rfl | exact Or.inr rfl)) pgs_nil))))
    (pss_cons (ps_set (i := 4) sc_law.nd rfl (by first | exact Or.inl rfl | exact Or.inr rfl) (pe_ifExp (pt_val (pe_fnS ((ok__law_is_int T).atS hg (hr.mono (by decide)) (b__law_is_int T) .nil (takes_of rfl rfl rfl rfl)) rfl T.g__law_is_int T.F__law_is_int.kp (pa_cons (pv 5) (pa_cons (pe_int) (pa_cons (pe_int) pa_nil))))) (pe_lst (pa_cons (pe_str) (pa_cons (pe_tup (pa_cons (pe_int) pa_nil)) (pa_cons (pe_tup (pa_cons (pv 5) pa_nil)) pa_nil)))) (pe_lst (pa_cons (pe_str) (pa_cons (pv 5) (pa_cons (pe_bl) pa_nil))))))
    (pss_cons (ps_if (pt_cmpR (kx_ne (K := K) rfl hr) (pe_callB (kx_repr (K := K) rfl hg hr) (by rfl) T.z_repr bt_repr (pa_cons (pe_lamT (k := 7) (q := q_law) ((ok__law_met T).mono (by decide)) T.F__law_met sc__law_met rfl (by first | exact Or.inl rfl | exact Or.inr (Or.inl rfl) | exact Or.inr (Or.inr rfl)) (b__law_met T) rfl T.g__law_met hg (hr.mono (by decide)) T.tb_law rfl rfl (LamX.lamS_by (sc := defScope st_law) (by decide +kernel)) rfl (fun _ _ _ _ _ => rfl) (fun f c1 E A outer s H hg hr => pe_fnKS0 ((ok_turn_flip T).atKS hg (hr.mono (by decide)) (kb_turn_flip__0_cell T) (takes_of rfl rfl rfl rfl)) rfl T.g_turn_flip T.F_turn_flip.kp (pk_cons (pv 5) pk_nil))) pa_nil)) (pe_callB (kx_repr (K := K) rfl hg hr) (by rfl) T.z_repr bt_repr (pa_cons (pv 4) pa_nil)) (nomark _)) (pss_one (ps_ret (pe_bl))) pss_nil)
    (pss_cons (ps_if (pt_cmpR (kx_ne (K := K) rfl hr) (pe_callB (kx_repr (K := K) rfl hg hr) (by rfl) T.z_repr bt_repr (pa_cons (pe_lamT (k := 7) (q := q_law) ((ok__law_met T).mono (by decide)) T.F__law_met sc__law_met rfl (by first | exact Or.inl rfl | exact Or.inr (Or.inl rfl) | exact Or.inr (Or.inr rfl)) (b__law_met T) rfl T.g__law_met hg (hr.mono (by decide)) T.tb_law rfl rfl (LamX.lamS_by (sc := defScope st_law) (by decide +kernel)) rfl (fun _ _ _ _ _ => rfl) (fun f c1 E A outer s H hg hr => pe_fnKS ((ok_add_flip T).atKS hg (hr.mono (by decide)) (kb_add_flip__1_to T) (takes_of rfl rfl rfl rfl)) rfl T.g_add_flip T.F_add_flip.kp (pa_cons (pv 5) pa_nil) (pk_cons (pv 6) pk_nil))) pa_nil)) (pe_callB (kx_repr (K := K) rfl hg hr) (by rfl) T.z_repr bt_repr (pa_cons (pe_fnS ((ok__law_due T).atS hg (hr.mono (by decide)) (b__law_due T) .nil (takes_of rfl rfl rfl rfl)) rfl T.g__law_due T.F__law_due.kp (pa_cons (pv 5) (pa_cons (pv 6) (pa_cons (pe_int) (pa_cons (pe_bl) pa_nil))))) pa_nil)) (nomark _)) (pss_one (ps_ret (pe_bl))) pss_nil)
    (pss_one (ps_if (pt_cmpR (kx_ne (K := K) rfl hr) (pe_callB (kx_repr (K := K) rfl hg hr) (by rfl) T.z_repr bt_repr (pa_cons (pe_lamT (k := 7) (q := q_law) ((ok__law_met T).mono (by decide)) T.F__law_met sc__law_met rfl (by first | exact Or.inl rfl | exact Or.inr (Or.inl rfl) | exact Or.inr (Or.inr rfl)) (b__law_met T) rfl T.g__law_met hg (hr.mono (by decide)) T.tb_law rfl rfl (LamX.lamS_by (sc := defScope st_law) (by decide +kernel)) rfl (fun _ _ _ _ _ => rfl) (fun f c1 E A outer s H hg hr => pe_fnS ((ok_swap_flip T).atS hg (hr.mono (by decide)) (b_swap_flip T) .nil (takes_of rfl rfl rfl rfl)) rfl T.g_swap_flip T.F_swap_flip.kp (pa_cons (pv 5) (pa_cons (pv 6) pa_nil)))) pa_nil)) (pe_callB (kx_repr (K := K) rfl hg hr) (by rfl) T.z_repr bt_repr (pa_cons (pe_fnS ((ok__law_due T).atS hg (hr.mono (by decide)) (b__law_due T) .nil (takes_of rfl rfl rfl rfl)) rfl T.g__law_due T.F__law_due.kp (pa_cons (pv 5) (pa_cons (pv 6) (pa_cons (pe_int) (pa_cons (pe_bl) pa_nil))))) pa_nil)) (nomark _)) (pss_one (ps_ret (pe_bl))) pss_nil)))))))
    (pss_one (ps_if (pt_not (pt_val (pe_fnS ((ok__law_effects_right T).atS hg (hr.mono (by decide)) (b__law_effects_right T) .nil (takes_of rfl rfl rfl rfl)) rfl T.g__law_effects_right T.F__law_effects_right.kp (pa_cons (pv 2) pa_nil)))) (pss_one (ps_ret (pe_bl))) pss_nil)))))
    (pss_one (ps_ret (pe_bl))), ?_⟩
    exact ⟨_, fun x => (simS_seq (simS_for (Gl := (fun s1 : Unit => ([some (kSc x.1), none, none, none, none, none, none] : Gm K))) (s0 := ()) le_none (simI_r1 (simA_cons (sim_callB cb_max2 (simA_cons sim_i (simA_cons (sim_callB cb_min2 (simA_cons sim_i (simA_cons (sim_callB cb_lenSc (simA_cons (sim_var (i := 0) (r := kSc) (x := x.1) rfl) simA_nil)) simA_nil))) simA_nil))) simA_nil)) simG_name (.so (.no (.no (.no (.no (.no (.no .nil))))))) (fun (x19 : Int) (s1 : Unit) => (show SimS _ _ ([some (kSc x.1), some (kI x19), none, none, none, none, none] : Gm K) _ _ _ _ from (simS_seq (simS_asg simG_name le_none (sim_call (cal_lift (w := w__law_pot K cl)) (simA_cons (sim_var (i := 0) (r := kSc) (x := x.1) rfl) (simA_cons (sim_var (i := 1) (r := kI) (x := x19) rfl) simA_nil))) (fun (pot_here_28 : Addr) => (show SimS _ _ ([some (kSc x.1), some (kI x19), some (kRef pot_here_28), none, none, none, none] : Gm K) _ _ _ _ from (simS_seq (simS_for (Gl := (fun s29 : Unit => ([some (kSc x.1), some (kI x19), some (kRef pot_here_28), none, none, none, none] : Gm K))) (s0 := ()) le_none (simI_r1 (simA_cons sim_i simA_nil)) simG_name (.so (.so (.so (.no (.no (.no (.no .nil))))))) (fun (x41 : Int) (s29 : Unit) => (show SimS _ _ ([some (kSc x.1), some (kI x19), some (kRef pot_here_28), some (kI x41), none, none, none] : Gm K) _ _ _ _ from (simS_seq (simS_asg (simG_pair simG_name simG_name) le_none (sim_pair (simA_cons (sim_call (cal_lift (w := w__law_one K cl)) (simA_cons (sim_var (i := 2) (r := kRef) (x := pot_here_28) rfl) simA_nil)) (simA_cons (sim_call (cal_lift (w := w__law_one K cl)) (simA_cons (sim_var (i := 2) (r := kRef) (x := pot_here_28) rfl) simA_nil)) simA_nil))) (fun (y58 : (PyData × PyData)) => (show SimS _ _ ([some (kSc x.1), some (kI x19), some (kRef pot_here_28), some (kI x41), none, some (kPy y58.1), some (kPy y58.2)] : Gm K) _ _ _ _ from (simS_seq (simS_asg simG_name le_none (sim_if (simB_B (sim_call (cal_lift (w := w__law_is_int K cl)) (simA_cons (sim_var (i := 5) (r := kPy) (x := y58.1) rfl) (simA_cons sim_i (simA_cons sim_i simA_nil))))) (sim_lstK (r := kPy) (fun y68 : PyData × PyData × PyData × Unit => ([y68.1, y68.2.1, y68.2.2.1] : List PyData)) (fun _ => rfl) (fun _ => (by decide : 3 ≤ 50000)) (simA_cons (sim_co sim_s co_S) (simA_cons (sim_co (sim_tupK (r := kI) (fun y69 : Int × Unit => ([y69.1] : List Int)) (fun _ => rfl) (fun _ => (by decide : 1 ≤ 50000)) (simA_cons sim_i simA_nil)) (co_TP co_I)) (simA_cons (sim_co (sim_tupK (r := kPy) (fun y72 : PyData × Unit => ([y72.1] : List PyData)) (fun _ => rfl) (fun _ => (by decide : 1 ≤ 50000)) (simA_cons (sim_var (i := 5) (r := kPy) (x := y58.1) rfl) simA_nil)) (co_TP co_id)) simA_nil)))) (sim_lstK (r := kPy) (fun y84 : PyData × PyData × PyData × Unit => ([y84.1, y84.2.1, y84.2.2.1] : List PyData)) (fun _ => rfl) (fun _ => (by decide : 3 ≤ 50000)) (simA_cons (sim_co sim_s co_S) (simA_cons (sim_var (i := 5) (r := kPy) (x := y58.1) rfl) (simA_cons (sim_co sim_b co_B) simA_nil))))) (fun (due_here_94 : List PyData) => (show SimS _ _ ([some (kSc x.1), some (kI x19), some (kRef pot_here_28), some (kI x41), some ((kL kPy) due_here_94), some (kPy y58.1), some (kPy y58.2)] : Gm K) _ _ _ _ from (simS_seq (simS_if le_none (simB_test (sim_op os_neS (sim_callB cb_repr (simA_cons (sim_co (sim_lamF (r3 := (kL kPy)) (wt := fun m => w__law_met K cl m ((), ())) (fun E => (sim_callK (cal_liftK (δ' := fun x : PyData × Unit => [kPy x.1]) (w := w_turn_flip K cl) (fun (x : Unit) (y : PyData × Unit) => (y.1, ())) (by rintro Z H x y vs zs rfl ⟨_, _, rfl, a0, rfl⟩; exact ⟨_, _, rfl, a0, rfl⟩)) simA_nil (simA_cons (sim_var (i := 5) (r := kPy) (x := y58.1) rfl) simA_nil)))) (co_LP co_id)) simA_nil)) (sim_callB cb_repr (simA_cons (sim_co (sim_var (i := 4) (r := (kL kPy)) (x := due_here_94) rfl) (co_LP co_id)) simA_nil)))) (simS_ret le_none sim_b) (simS_next (simS_seq (simS_if le_none (simB_test (sim_op os_neS (sim_callB cb_repr (simA_cons (sim_co (sim_lamF (r3 := (kL kPy)) (wt := fun m => w__law_met K cl m ((), ())) (fun E => (sim_callK (cal_liftK (δ' := fun x : PyData × PyData × Unit => [kPy x.1, kPy x.2.1]) (w := w_add_flip K cl) (fun (x : PyData × Unit) (y : PyData × Unit) => (x.1, y.1, ())) (by rintro Z H x y vs zs ⟨_, _, rfl, a0, rfl⟩ ⟨_, _, rfl, a1, rfl⟩; exact ⟨_, _, rfl, a0, _, _, rfl, a1, rfl⟩)) (simA_cons (sim_var (i := 5) (r := kPy) (x := y58.1) rfl) simA_nil) (simA_cons (sim_var (i := 6) (r := kPy) (x := y58.2) rfl) simA_nil)))) (co_LP co_id)) simA_nil)) (sim_callB cb_repr (simA_cons (sim_co (sim_call (cal_lift (w := w__law_due K cl)) (simA_cons (sim_var (i := 5) (r := kPy) (x := y58.1) rfl) (simA_cons (sim_var (i := 6) (r := kPy) (x := y58.2) rfl) (simA_cons sim_i (simA_cons sim_b simA_nil))))) (co_LP co_id)) simA_nil)))) (simS_ret le_none sim_b) (simS_next (simS_if le_none (simB_test (sim_op os_neS (sim_callB cb_repr (simA_cons (sim_co (sim_lamF (r3 := (kL kPy)) (wt := fun m => w__law_met K cl m ((), ())) (fun E => (sim_call (cal_lift (w := w_swap_flip K cl)) (simA_cons (sim_var (i := 5) (r := kPy) (x := y58.1) rfl) (simA_cons (sim_var (i := 6) (r := kPy) (x := y58.2) rfl) simA_nil))))) (co_LP co_id)) simA_nil)) (sim_callB cb_repr (simA_cons (sim_co (sim_call (cal_lift (w := w__law_due K cl)) (simA_cons (sim_var (i := 5) (r := kPy) (x := y58.1) rfl) (simA_cons (sim_var (i := 6) (r := kPy) (x := y58.2) rfl) (simA_cons sim_i (simA_cons sim_b simA_nil))))) (co_LP co_id)) simA_nil)))) (simS_ret le_none sim_b) (simS_next (simS_end (s := (() : Unit)) (.so (.so (.so (.no (.no (.no (.no .nil)))))))))))))))))))))))))) (fun (s29 : Unit) => (show SimS _ _ ([some (kSc x.1), some (kI x19), some (kRef pot_here_28), none, none, none, none] : Gm K) _ _ _ _ from (simS_if le_none (simB_not (simB_B (sim_call (cal_lift (w := w__law_effects_right K cl)) (simA_cons (sim_var (i := 2) (r := kRef) (x := pot_here_28) rfl) simA_nil)))) (simS_ret le_none sim_b) (simS_next (simS_end (s := (() : Unit)) (.so (.no (.no (.no (.no (.no (.no .nil)))))))))))))))))))) (fun (s1 : Unit) => (show SimS _ _ ([some (kSc x.1), none, none, none, none, none, none] : Gm K) _ _ _ _ from (simS_ret le_none sim_b))))), fun _ _ _ _ h => h⟩)
theorem v_is_integer_in (d : PyData) (lo hi : Int) : w_is_integer_in K cl (d, lo, hi, ()) = ret (intIn d lo hi) := by
  unfold w_is_integer_in
  wtm_at "m"
  rw [ass_t (show IsTy "int" from .inl rfl), ass_t (show IsTy "bool" from .inr (.inl rfl))]
  cases d with
  | int i =>
    simp only [show isD (.int i) "int" = true from rfl, show isD (.int i) "bool" = false from rfl]
    wtm_at "m"
    simp only [intIn]
    by_cases h : lo ≤ i <;> by_cases h2 : i ≤ hi <;> simp [h, h2]
  | bool b => simp only [show isD (.bool b) "int" = true from rfl, show isD (.bool b) "bool" = true from rfl]; wtm_at "m"; rfl
  | _ => rfl
theorem v_is_cell (d : PyData) (s : Int) : w_is_cell K cl (d, s, ()) = ret (intIn d 0 (s - 1)) := by
  unfold w_is_cell
  wtm_at "m"
  simp only [v_is_integer_in]
theorem v_require_size (d : PyData) : w_require_size K cl (d, ()) = wIf (intIn d 1 40) (ret ()) (wRaise (cl.NoSize, [("value", kPy d)])) := by
  unfold w_require_size
  wtm_at "m"
  simp only [v_is_integer_in]
  wtm_at "m"
theorem v_require_cell (d : PyData) (lo s : Int) : w_require_cell K cl (d, lo, s, ()) = wIf (intIn d lo (s - 1)) (ret ()) (wRaise (cl.NoCell, [("cell", kPy d)])) := by
  unfold w_require_cell
  wtm_at "m"
  simp only [v_is_integer_in]
  wtm_at "m"
theorem v_mask_of {ns : List Int} (h : ∀ n ∈ ns, 0 ≤ n ∧ n < 64) (hl : ns.length ≤ 50000) : w_mask_of K cl (ns, ()) = ret (maskI ns) := by
  unfold w_mask_of
  wtm_at "m"
  rw [ass_t hl, fmap_all (f' := fun n => (1 : Int) * 2 ^ n.toNat)]
  · wtm_at "m"; rfl
  · intro n hn
    exact ass_t (cpow (h n hn).1 (by have := h n hn; omega) (by decide))
theorem v_cells_in {m : Nat} (h : m < 2 ^ 64) : w_cells_in K cl ((m : Int), ()) = ret (bitsL m) := by
  have hf := bits_fit h
  unfold w_cells_in
  wtm_at "m"
  rw [ass_t (by omega), rng_0, ass_t (by simp [intsTo]; omega), fmap_filt (c' := fun i => m.testBit i.toNat)]
  · wtm_at "m"
    simp only [bitsL, intsTo, List.filter_map]
    rw [filter_bits bits_over hf]
    rfl
  · intro i hi
    obtain ⟨h0, _⟩ := mem_intsTo.mp hi
    show wAss _ _ = _
    rw [ass_t h0, bit_at]
theorem v_is_odd {m : Nat} {S : Store K} : Spec (w_is_odd K cl ((m : Int), ())) S (· = oddN m) := by
  intro Q E q
  unfold w_is_odd
  wtm_at "m"
  refine while_eq (fun s => ∃ r : Nat, s.1 = (r : Int) ∧ (s.2.1 != oddN r) = oddN m) (fun s => s.1.toNat) (g := fun s => (Builtin.bitAnd s.1 (s.1 - 1), !s.2.1, ())) ?_ ⟨m, rfl, by simp⟩ ?_
  · rintro ⟨s, f, ⟨⟩⟩ ⟨r, hr, hf⟩ hb
    simp only at hr hf hb
    subst hr
    have r0 : 0 < r := by simpa using hb
    have hp := pop_less r r0
    have e : ((r : Int) - 1) = ((r - 1 : Nat) : Int) := by omega
    refine ⟨rfl, ⟨r &&& (r - 1), by simp only [e, and_nn], ?_⟩, ?_⟩
    · rw [← hf]
      have : oddN (r &&& (r - 1)) = !oddN r := by
        unfold oddN
        rw [← hp]
        by_cases h : pop (r &&& (r - 1)) % 2 = 1
        · simp [h]; omega
        · simp [h]; omega
      rw [this]
      cases f <;> cases oddN r <;> rfl
    · simp only [e, and_nn, Int.toNat_natCast]
      have := Nat.and_le_right (n := r) (m := r - 1)
      omega
  · rintro ⟨s, f, ⟨⟩⟩ ⟨r, hr, hf⟩ hb
    simp only at hr hf hb
    subst hr
    have r0 : r = 0 := by
      have : ¬ 0 < r := by simpa using hb
      omega
    subst r0
    refine q _ ?_
    rw [← hf]
    show f = (f != oddN 0)
    rw [show oddN 0 = false by decide +kernel]
    cases f <;> rfl
theorem v_cell_tuple {d : PyData} {s : Int} (hl : ∀ ds, seqD d = some ds → ds.length ≤ 50000) : w_cell_tuple K cl (d, s, ()) = (match cellsD d s with | some ts => ret ts | none => wRaise (cl.NoCells, [("cells", kPy d)])) := by
  unfold w_cell_tuple
  wtm_at "m"
  cases hs : (isD d "list" || isD d "tuple") with
  | false => rw [cellsD_no hs]; wtm_at "m"
  | true =>
    obtain ⟨ds, hd⟩ := seq_yes hs
    wtm_at "m"
    rw [cellsD_seq hd, seq_of hd]
    wtm_at "m"
    rw [ass_t (hl _ hd), fmap_all (f' := fun x => intIn x 0 (s - 1)) (fun x _ => v_is_cell x s)]
    wtm_at "m"
    simp only [List.all_map, Function.comp_def, id]
    cases ha : ds.all (fun x => intIn x 0 (s - 1)) with
    | false =>
      wtm_at "m"
      simp only [areCells, ha, Bool.false_and]
      rfl
    | true =>
      wtm_at "m"
      have e := intsOf ha
      rw [sortPy_of (ns := intsD ds) (by rw [hd]; exact congrArg some e)]
      wtm_at "m"
      have hl2 : (isort (intsD ds)).length ≤ 50000 := by
        have h1 := (isort_perm (intsD ds)).length_eq
        have h2 : ds.length = (intsD ds).length := by conv => lhs; rw [e]; rw [List.length_map]
        have := hl _ hd
        omega
      have es : sli (isort (intsD ds)) (some 1) none = (isort (intsD ds)).drop 1 := sli_one _
      rw [es, ass_t (by rw [List.length_zip]; omega), fmap_ret]
      wtm_at "m"
      simp only [List.all_map, Function.comp_def, id]
      have hn := asc_nodup (isort_le (intsD ds))
      simp only [areCells, ha, Bool.true_and]
      by_cases nd : (intsD ds).Nodup
      · rw [hn.mpr ((isort_perm _).nodup_iff.mpr nd)]
        simp only [nd, decide_true]
        wtm_at "m"
      · rw [Bool.eq_false_iff.mpr fun h => nd ((isort_perm _).nodup_iff.mp (hn.mp h))]
        simp only [nd, decide_false]
        wtm_at "m"
        rfl
theorem v_cell_mask {d : PyData} {s : Int} (hs : s ≤ 64) (hl : ∀ ds, seqD d = some ds → ds.length ≤ 50000) : w_cell_mask K cl (d, s, ()) = (match cellsD d s with | some ts => ret (maskI ts) | none => wRaise (cl.NoCells, [("cells", kPy d)])) := by
  unfold w_cell_mask
  wtm_at "m"
  rw [v_cell_tuple hl]
  cases e : cellsD d s with
  | none => rfl
  | some ts =>
    wtm_at "m"
    rw [v_mask_of (fun n hn => by have := (cells_range e).1 n hn; omega) (cells_len e hl)]
theorem v_Board {d u : PyData} {n : Nat} {ts : List Int} {S : Store K} (hd : d = .int n) (h1 : 1 ≤ n) (h2 : n ≤ 40) (hu : cellsD u n = some ts) (hl : ∀ ds, seqD u = some ds → ds.length ≤ 50000) :
    Spec (bnd (wMk cl.Board (w_Board____init__ K cl) (d, u, ())) (wFrz cl.Board (fs_Board K cl))) S (· = (n, (maskI ts).toNat ||| 1)) := by
  subst hd
  intro Q E q
  refine mkfrz fun a ha => ?_
  unfold w_Board____init__
  wtm_at "m"
  rw [v_require_size, show intIn (.int n) 1 40 = true by simp [intIn]; omega]
  wtm_at "m"
  refine setF_ap set_same (by show (0 : Nat) < 1000; omega) ?_
  rw [v_cell_mask (by omega) hl, hu]
  wtm_at "m"
  refine setF_ap set_same (by show (1 : Nat) < 1000; omega) ?_
  rw [set_set, set_set]
  refine ⟨(n, (maskI ts).toNat ||| 1), ?_, ?_⟩
  · rw [set_same, ← Int.toNat_of_nonneg (maskI_nn ts)]
    exact congrArg (fun z => some (Cell.ins cl.Board [(("own_size" : Str), kI (n : Int)), (("up_mask" : Str), kI z)])) (or_nn (maskI ts).toNat 1)
  · rw [set_del, del_none ha]; exact q _ rfl
theorem v_Board__size (n m : Nat) : w_Board__size K cl ((n, m), ()) = ret (n : Int) := by
  unfold w_Board__size
  wtm_at "m"
theorem v_Board__up {n m : Nat} (h : m < 2 ^ 64) : w_Board__up K cl ((n, m), ()) = ret (bitsL m) := by
  unfold w_Board__up
  wtm_at "m"
  rw [v_cells_in h]
  wtm_at "m"
theorem v_board_of {n m : Nat} {S : Store K} (n1 : 1 ≤ n) (n40 : n ≤ 40) (hm : m < 2 ^ n) (od : m.testBit 0 = true) : Spec (w_board_of K cl ((n : Int), (m : Int), ())) S (· = (n, m)) := by
  have m64 : m < 2 ^ 64 := Nat.lt_of_lt_of_le hm (Nat.pow_le_pow_right (by decide) (by omega))
  unfold w_board_of
  wtm_at "m"
  rw [v_cells_in m64]
  wtm_at "m"
  refine (v_Board (ts := bitsL m) rfl n1 n40 (cells_asc (fun k hk => bits_below hm hk) (bits_asc m)).1 (fun ds e => by cases e; rw [List.length_map]; have := bits_len m; omega)).imp fun y hy => ?_
  rw [hy, maskN (ns := bitsL m), mask_bits m64, Int.toNat_natCast, or_one od]
theorem v_Flip {d u : PyData} {ts gs : List Int} {S : Store K} (hd : cellsD d 40 = some ts) (hu : cellsD u 40 = some gs) (ok : FlipOk (maskI ts).toNat (maskI gs).toNat)
    (hl : ∀ ds, seqD d = some ds → ds.length ≤ 50000) (hl' : ∀ ds, seqD u = some ds → ds.length ≤ 50000) :
    Spec (bnd (wMk cl.Flip (w_Flip____init__ K cl) (d, u, ())) (wFrz cl.Flip (fs_Flip K cl))) S (· = ((maskI ts).toNat, (maskI gs).toNat)) := by
  intro Q E q
  refine mkfrz fun a ha => ?_
  unfold w_Flip____init__
  wtm_at "m"
  rw [v_cell_mask (by omega) hl, hd]
  wtm_at "m"
  refine setF_ap set_same (by show (0 : Nat) < 1000; omega) ?_
  rw [v_cell_mask (by omega) hl', hu]
  wtm_at "m"
  refine setF_ap set_same (by show (1 : Nat) < 1000; omega) ?_
  rw [set_set, set_set]
  refine getF_ap (x := maskI gs) set_same rfl ?_
  have eg : Builtin.bitAnd (maskI gs) 1 = 0 := by
    rw [← Int.toNat_of_nonneg (maskI_nn gs), show (1 : Int) = ((1 : Nat) : Int) from rfl, and_nn]
    have h := ok.fix
    rw [Nat.testBit_zero] at h
    have h2 : (maskI gs).toNat &&& 1 = 0 := by rw [Nat.and_one_is_mod]; have := of_decide_eq_false h; omega
    rw [h2]; rfl
  rw [eg, show decide ((0 : Int) = 1) = false by decide]
  wtm_at "m"
  refine getF_ap (x := maskI ts) set_same rfl ?_
  refine getF_ap (x := maskI gs) set_same rfl ?_
  rw [← Int.toNat_of_nonneg (maskI_nn gs), ← Int.toNat_of_nonneg (maskI_nn ts), and_nn]
  refine v_is_odd.ap fun y e => ?_
  rw [e, ok.ev]
  wtm_at "m"
  refine ⟨((maskI ts).toNat, (maskI gs).toNat), set_same, ?_⟩
  rw [set_del, del_none ha]; exact q _ rfl
theorem v_Flip__tested {t g : Nat} (h : t < 2 ^ 64) : w_Flip__tested K cl ((t, g), ()) = ret (bitsL t) := by
  unfold w_Flip__tested
  wtm_at "m"
  rw [v_cells_in h]
  wtm_at "m"
theorem v_Flip__toggled {t g : Nat} (h : g < 2 ^ 64) : w_Flip__toggled K cl ((t, g), ()) = ret (bitsL g) := by
  unfold w_Flip__toggled
  wtm_at "m"
  rw [v_cells_in h]
  wtm_at "m"
theorem v_Flip__width (t g : Nat) : w_Flip__width K cl ((t, g), ()) = ret (widM t g : Int) := by
  unfold w_Flip__width
  wtm_at "m"
  rw [or_nn]
  refine congrArg TL.ret ?_
  unfold widM
  omega
theorem v_require_fit {t g n : Nat} (h : widM t g ≤ n) : w_require_fit K cl ((t, g), (n : Int), ()) = ret () := by
  unfold w_require_fit
  wtm_at "m"
  rw [v_Flip__width]
  wtm_at "m"
  rw [decide_eq_false (show ¬ ((n : Nat) : Int) < (widM t g : Int) by omega), if_f]
theorem v_mask_after {m t g : Nat} {S : Store K} : Spec (w_mask_after K cl ((m : Int), (t, g), ())) S (· = ((afterM m t g : Nat) : Int)) := by
  unfold w_mask_after
  wtm_at "m"
  rw [and_nn, xor_nn]
  refine v_is_odd.bnd fun y e => ?_
  subst e
  unfold afterM
  by_cases o : oddN (m &&& t) = true
  · rw [o, if_t, if_pos rfl]
    exact Spec.ret rfl
  · have o := Bool.eq_false_iff.mpr o
    rw [o, if_f, if_neg (by decide)]
    exact Spec.ret rfl
theorem v_apply_flip {n m t g : Nat} {S : Store K} (n1 : 1 ≤ n) (n40 : n ≤ 40) (ok : FlipOk t g) (w : widM t g ≤ n) (hm : m < 2 ^ n) (od : m.testBit 0 = true) : Spec (w_apply_flip K cl ((n, m), (t, g), ())) S (· = (n, afterM m t g)) := by
  unfold w_apply_flip
  wtm_at "m"
  rw [v_Board__size]
  wtm_at "m"
  rw [v_require_fit w]
  wtm_at "m"
  refine v_mask_after.bnd fun y e => ?_
  subst e
  exact v_board_of n1 n40 (afterM_lt hm ((widM_le n1).mp w).2) (afterM_odd od ok.fix)
theorem v_law_draw {p : Addr} {n : Int} {S : Store K} (hp : S p = some .pot) (h0 : 0 < n) (h1 : n < 2 ^ 200) : Spec (w__law_draw K cl (p, n, ())) S (fun d => 0 ≤ d ∧ d < n) :=
  fun Q E q => ⟨hp, h0, h1, fun d a b => q d ⟨a, b⟩⟩
theorem v_law_bits {p : Addr} {n : Nat} {S : Store K} (hp : S p = some .pot) (h0 : 1 ≤ n) (h1 : n ≤ 1000) :
    Spec (w__law_bits K cl (p, (n : Int), ())) S (fun bs => ∃ m, m < 2 ^ n ∧ m.testBit 0 = true ∧ bs = bitsOf n m) := by
  unfold w__law_bits
  wtm_at "m"
  rw [ass_t (by omega), ass_t (by rw [rng_len]; omega)]
  refine (Spec.fmap fun _ _ => v_law_draw hp (by omega) (by omega)).bndc fun xs hx => ?_
  have hl : xs.length = n - 1 := by rw [hx.len, rng_len]; omega
  refine Spec.ass (by rw [hl]; show 1 + (n - 1) ≤ 50000; omega) (Spec.ret ?_)
  obtain ⟨m, hm, e⟩ := exists_mask ([1] ++ xs) (fun b hb => by
    rcases List.mem_append.mp hb with hb | hb
    · rw [List.mem_singleton] at hb; exact .inr hb
    · obtain ⟨_, _, h⟩ := hx.mem hb; omega)
  have hl2 : ([1] ++ xs : List Int).length = n := by simp; omega
  rw [hl2] at hm e
  exact ⟨m, hm, (bitsOf_odd e.symm).mp rfl, e⟩
theorem v_law_up {n m : Nat} (h : m < 2 ^ n) (hn : n ≤ 64) : w__law_up K cl (bitsOf n m, ()) = ret (bitsL m) := by
  unfold w__law_up
  wtm_at "m"
  rw [enum_bits, ass_t (by simp; omega), fmap_eq (c' := fun x : Int × Int => decide (x.2 = 1)) (f' := fun x : Int × Int => x.1) (fun _ _ => rfl) fun _ _ _ => rfl]
  wtm_at "m"
  refine congrArg TL.ret ?_
  rw [bits_lt h hn, List.filter_map, List.map_map]
  refine congrArg _ (List.filter_congr fun i _ => ?_)
  simp only [Function.comp_def, bitI]
  cases m.testBit i <;> rfl
theorem v_law_made {n m : Nat} {S : Store K} (h : m < 2 ^ n) (h1 : 1 ≤ n) (hn : n ≤ 40) (od : m.testBit 0 = true) : Spec (w__law_made K cl (bitsOf n m, ())) S (· = (n, m)) := by
  unfold w__law_made
  wtm_at "m"
  rw [v_law_up h (by omega)]
  wtm_at "m"
  rw [bitsOf_len]
  have hb : ∀ k ∈ bitsL m, 0 ≤ k ∧ k < n := fun k hk => bits_below h hk
  have m64 : m < 2 ^ 64 := Nat.lt_of_lt_of_le h (Nat.pow_le_pow_right (by decide) (by omega))
  refine (v_Board rfl h1 hn (cells_asc hb (bits_asc m)).2 (fun ds e => ?_)).imp fun y hy => ?_
  · cases e; rw [List.length_map]; have := bits_len m; omega
  · rw [hy, mask_bits m64, or_one od]
theorem isort_asc {ns : List Int} (h : ns.Pairwise (· < ·)) : isort ns = ns := (isort_is (List.Perm.refl _) (h.imp fun h => by omega)).symm
theorem v_law_is_so {n m : Nat} {S : Store K} (h : m < 2 ^ n) (h1 : 1 ≤ n) (hn : n ≤ 40) (od : m.testBit 0 = true) : Spec (w__law_is_so K cl ((n, m), bitsOf n m, ())) S (· = true) := by
  have m64 : m < 2 ^ 64 := Nat.lt_of_lt_of_le h (Nat.pow_le_pow_right (by decide) (by omega))
  unfold w__law_is_so
  wtm_at "m"
  rw [v_Board__size]
  wtm_at "m"
  rw [bitsOf_len, decide_eq_true rfl]
  wtm_at "m"
  rw [v_Board__up m64, v_law_up h (by omega)]
  wtm_at "m"
  rw [isort_asc (bits_asc m), eqv_same (shp_ints (bitsL m))]
  exact Spec.ass ⟨(shp_ints _).shaped (by decide), (shp_ints _).shaped (by decide)⟩ (Spec.ret rfl)
theorem num20 : (10 : Int) ^ Int.toNat 20 = 100000000000000000000 := by decide
theorem num9 : (10 : Int) ^ Int.toNat 9 = 1000000000 := by decide
theorem v_law_any_thing {p : Addr} {S : Store K} (hp : S p = some .pot) : Spec (w__law_any_thing K cl (p, ())) S (fun d => Tame d 5 1000) := by
  unfold w__law_any_thing
  wtm_at "m"
  rw [num20, num9]
  refine Spec.ass (cpow (by decide) (by decide) (by decide)) (Spec.ass (cpow (by decide) (by decide) (by decide)) ?_)
  refine (v_law_draw hp (by omega) (by omega)).bnd fun x hx => ?_
  refine (v_law_draw hp (by simp) (by simp)).bnd fun i hi => ?_
  refine (Spec.ix hi.1 hi.2).imp fun d hd => ?_
  have big : ∀ y : Int, y.natAbs ≤ 200000000000000000000 → Tame (PyData.int y) 5 1000 := fun y hy => (tame_int (Nat.lt_of_le_of_lt hy (by decide))).mono (by decide) (by decide)
  simp only [List.mem_cons, List.not_mem_nil, or_false] at hd
  rcases hd with rfl | rfl | rfl | rfl | rfl | rfl | rfl | rfl | rfl | rfl | rfl | rfl | rfl | rfl | rfl | rfl | rfl | rfl | rfl | rfl | rfl
  all_goals first
    | exact big _ (by omega)
    | exact ⟨by decide +kernel, by decide +kernel, by decide +kernel, by decide +kernel, by decide +kernel⟩
theorem v_law_is_int (d : PyData) (lo hi : Int) : w__law_is_int K cl (d, lo, hi, ()) = ret (intIn d lo hi) := by
  unfold w__law_is_int
  wtm_at "m"
  rw [ass_t (show IsTy "int" from .inl rfl), ass_t (show IsTy "bool" from .inr (.inl rfl))]
  cases d with
  | int i =>
    simp only [show isD (.int i) "int" = true from rfl, show isD (.int i) "bool" = false from rfl]
    wtm_at "m"
    simp only [intIn]
    by_cases h : lo ≤ i <;> by_cases h2 : i ≤ hi <;> simp [h, h2]
  | bool b => simp only [show isD (.bool b) "int" = true from rfl, show isD (.bool b) "bool" = true from rfl]; wtm_at "m"; rfl
  | _ => rfl
theorem int_of {d : PyData} {lo hi : Int} (h : intIn d lo hi = true) : ∃ i, d = .int i ∧ lo ≤ i ∧ i ≤ hi := by
  cases d with
  | int i =>
    simp only [intIn, Bool.and_eq_true, decide_eq_true_eq] at h
    exact ⟨i, rfl, h.1, h.2⟩
  | _ => cases h
def Raises {α : Type} (m : W K α) (S : Store K) (e : Err K) : Prop := ∀ (Q : α → Store K → Prop) (E : Err K → Store K → Prop), (∀ S', TL.Ext S S' → E e S') → m Q E S
theorem lamX {α : Type} {P : Addr} {q : Str} {m : W K α} {S : Store K} {R : α → Prop} (hS : S P = some (.tab q)) (h : SpecX m S R) : SpecX (wLam P q m) S R := fun Q E g => ⟨hS, h _ _ g⟩
def flipD (ts gs : List Int) : List PyData := [.str "flip", .tuple (ts.map .int), .tuple (gs.map .int)]
theorem met_flip {m : W K (Nat × Nat)} {S : Store K} {ts gs : List Int} (ht : ∀ x ∈ ts, 0 ≤ x ∧ x < 64) (at_ : ts.Pairwise (· < ·)) (hg : ∀ x ∈ gs, 0 ≤ x ∧ x < 64) (ag : gs.Pairwise (· < ·)) (h : SpecX m S (· = ((maskI ts).toNat, (maskI gs).toNat))) :
    SpecX (w__law_met K cl m ((), ())) S (· = flipD ts gs) := by
  intro Q E q
  unfold w__law_met
  wtm_at "m"
  refine h _ _ fun y S' x hy => ?_
  subst hy
  have t64 : (maskI ts).toNat < 2 ^ 64 := mask_lt ht (at_.imp fun h => by omega)
  have g64 : (maskI gs).toNat < 2 ^ 64 := mask_lt hg (ag.imp fun h => by omega)
  rw [v_Flip__tested t64, v_Flip__toggled g64, bits_self ht at_, bits_self hg ag]
  wtm_at "m"
  exact q _ S' x rfl
theorem met_cell (T : Tx K mg cl) {m : W K (Nat × Nat)} {S : Store K} {d : PyData} (h : Raises m S (cl.NoCell, [("cell", kPy d)])) : SpecX (w__law_met K cl m ((), ())) S (· = [.str "cell", d, .bool true]) := by
  intro Q E q
  unfold w__law_met
  wtm_at "m"
  refine h _ _ fun S' x => ?_
  wtm_at "e"
  wtm_at "m"
  exact xf_of rfl (q _ S' x rfl)
theorem v_law_one {p : Addr} {S : Store K} (hp : S p = some .pot) : Spec (w__law_one K cl (p, ())) S (fun d => Tame d 5 1000) := by
  unfold w__law_one
  wtm_at "m"
  refine (v_law_any_thing hp).bnd fun d hd => ?_
  refine (v_law_draw hp (by omega) (by omega)).bnd fun a ha => ?_
  refine (v_law_draw hp (by omega) (by omega)).bnd fun b hb => ?_
  refine (v_law_draw hp (by omega) (by omega)).bnd fun i hi => ?_
  refine (Spec.ix hi.1 (by show i < 3; omega)).imp fun y hy => ?_
  have big : ∀ y : Int, y.natAbs ≤ 200 → Tame (PyData.int y) 5 1000 := fun y hy => (tame_int (Nat.lt_of_le_of_lt hy (by decide))).mono (by decide) (by decide)
  simp only [List.mem_cons, List.not_mem_nil, or_false] at hy
  rcases hy with rfl | rfl | rfl
  · exact hd
  · exact big _ (by omega)
  · exact big _ (by omega)
/-- what the law says of the two -/
def dueD (near far : PyData) (least : Int) (sw : Bool) : List PyData :=
  if intIn near least 39 = true then
    match near, far with
    | .int a, .int b => if intIn (.int b) 1 39 = true ∧ a ≠ b then (if sw then flipD (isort [a, b]) (isort [a, b]) else flipD [a] [b]) else [.str "cell", far, .bool true]
    | _, _ => [.str "cell", far, .bool true]
  else [.str "cell", near, .bool true]
theorem v_law_due (near far : PyData) (least : Int) (sw : Bool) : w__law_due K cl (near, far, least, sw, ()) = ret (dueD near far least sw) := by
  unfold w__law_due
  wtm_at "m"
  simp only [v_law_is_int]
  wtm_at "m"
  unfold dueD
  cases h1 : intIn near least 39 with
  | false => rw [if_f]; rfl
  | true =>
    rw [if_t]
    obtain ⟨a, rfl, _⟩ := int_of h1
    cases h2 : intIn far 1 39 with
    | false =>
      rw [if_f]
      cases far with
      | int b => simp [h2]
      | _ => rfl
    | true =>
      obtain ⟨b, rfl, _⟩ := int_of h2
      rw [if_t, ass_t ⟨(shp_int (n := 1)).shaped (by decide), (shp_int (n := 1)).shaped (by decide)⟩, show PyData.eqv (.int a) (.int b) = decide (a = b) from eqc_int a b]
      by_cases e : a = b
      · rw [decide_eq_true e, if_t]; simp [e]
      · rw [decide_eq_false e, if_f]
        wtm_at "m"
        cases sw
        · rw [if_f]; simp [h2, e]; rfl
        · rw [if_t]; simp [h2, e]; rfl
theorem pair_one {a b : Int} (ha : 0 ≤ a ∧ a ≤ 39) (hb : 1 ≤ b ∧ b ≤ 39) (ne : a ≠ b) : PairOk 40 [a] [b] := ⟨by simp; omega, by simp, by simp; omega, by simp, by
  rw [List.filter_cons_of_neg (by simp; omega)]; rfl⟩
theorem two_asc {a b : Int} (ne : a ≠ b) : (isort [a, b]).Pairwise (· < ·) := by
  have nd : (isort [a, b]).Nodup := (isort_perm _).nodup_iff.mpr (by simp; omega)
  exact ((isort_le [a, b]).and nd).imp fun h => by
    have := h.1; have := h.2; omega
theorem pair_two {a b : Int} (ha : 1 ≤ a ∧ a ≤ 39) (hb : 1 ≤ b ∧ b ≤ 39) (ne : a ≠ b) : PairOk 40 (isort [a, b]) (isort [a, b]) := by
  have r : ∀ x ∈ isort [a, b], 1 ≤ x ∧ x < ((40 : Nat) : Int) := fun x hx => by
    have := (isort_perm [a, b]).subset hx
    simp only [List.mem_cons, List.not_mem_nil, or_false] at this
    omega
  refine ⟨fun x hx => by have := r x hx; omega, two_asc ne, r, two_asc ne, ?_⟩
  rw [List.filter_eq_self.mpr (fun x hx => decide_eq_true hx), (isort_perm _).length_eq]
  simp
theorem v_turn_flip {k : Int} {S : Store K} (h : 1 ≤ k ∧ k ≤ 39) : SpecX (w_turn_flip K cl (.int k, ())) S (· = ((maskI [0]).toNat, (maskI [k]).toNat)) := by
  have p := pair_one (a := 0) (b := k) (by omega) h (by omega)
  unfold w_turn_flip
  wtm_at "m"
  rw [v_require_cell, show intIn (.int k) 1 (40 - 1) = true by simp [intIn]; omega, if_t]
  wtm_at "m"
  exact (v_Flip (p.ct (Nat.le_refl _)).1 (p.cg (Nat.le_refl _)).1 (p.flip (Nat.le_refl _)) (fun ds e => by cases e; simp) (fun ds e => by cases e; simp)).x
theorem raises_turn {d : PyData} {S : Store K} (h : intIn d 1 39 = false) : Raises (w_turn_flip K cl (d, ())) S (cl.NoCell, [("cell", kPy d)]) := by
  intro Q E q
  unfold w_turn_flip
  wtm_at "m"
  rw [v_require_cell, show intIn d 1 (40 - 1) = false from h, if_f]
  exact q S TL.Ext.refl
theorem v_add_flip {a b : Int} {S : Store K} (ha : 0 ≤ a ∧ a ≤ 39) (hb : 1 ≤ b ∧ b ≤ 39) (ne : a ≠ b) : SpecX (w_add_flip K cl (.int a, .int b, ())) S (· = ((maskI [a]).toNat, (maskI [b]).toNat)) := by
  have p := pair_one ha hb ne
  unfold w_add_flip
  wtm_at "m"
  rw [v_require_cell, show intIn (.int a) 0 (40 - 1) = true by simp [intIn]; omega, if_t]
  wtm_at "m"
  rw [v_require_cell, show intIn (.int b) 1 (40 - 1) = true by simp [intIn]; omega, if_t]
  wtm_at "m"
  rw [ass_t ⟨(shp_int (n := 1)).shaped (by decide), (shp_int (n := 1)).shaped (by decide)⟩, show PyData.eqv (.int b) (.int a) = decide (b = a) from eqc_int b a, decide_eq_false (by omega), if_f]
  exact (v_Flip (p.ct (Nat.le_refl _)).1 (p.cg (Nat.le_refl _)).1 (p.flip (Nat.le_refl _)) (fun ds e => by cases e; simp) (fun ds e => by cases e; simp)).x
theorem raises_add1 {d e : PyData} {S : Store K} (h : intIn d 0 39 = false) : Raises (w_add_flip K cl (d, e, ())) S (cl.NoCell, [("cell", kPy d)]) := by
  intro Q E q
  unfold w_add_flip
  wtm_at "m"
  rw [v_require_cell, show intIn d 0 (40 - 1) = false from h, if_f]
  exact q S TL.Ext.refl
theorem raises_add2 {d e : PyData} {S : Store K} (h : intIn d 0 39 = true) (h2 : intIn e 1 39 = false) : Raises (w_add_flip K cl (d, e, ())) S (cl.NoCell, [("cell", kPy e)]) := by
  intro Q E q
  unfold w_add_flip
  wtm_at "m"
  rw [v_require_cell, show intIn d 0 (40 - 1) = true from h, if_t]
  wtm_at "m"
  rw [v_require_cell, show intIn e 1 (40 - 1) = false from h2, if_f]
  exact q S TL.Ext.refl
theorem raises_add3 {a : Int} {S : Store K} (ha : 1 ≤ a ∧ a ≤ 39) : Raises (w_add_flip K cl (.int a, .int a, ())) S (cl.NoCell, [("cell", kPy (.int a))]) := by
  intro Q E q
  have e : w_add_flip K cl (.int a, .int a, ()) = wRaise (cl.NoCell, [("cell", kPy (.int a))]) := by
    unfold w_add_flip
    wtm_at "m"
    rw [v_require_cell, show intIn (.int a) 0 (40 - 1) = true by simp [intIn]; omega, if_t]
    wtm_at "m"
    rw [v_require_cell, show intIn (.int a) 1 (40 - 1) = true by simp [intIn]; omega, if_t]
    wtm_at "m"
    rw [ass_t ⟨(shp_int (n := 1)).shaped (by decide), (shp_int (n := 1)).shaped (by decide)⟩, show PyData.eqv (.int a) (.int a) = decide (a = a) from eqc_int a a, decide_eq_true rfl, if_t]
  rw [e]
  exact q S TL.Ext.refl
theorem v_swap_flip {a b : Int} {S : Store K} (ha : 1 ≤ a ∧ a ≤ 39) (hb : 1 ≤ b ∧ b ≤ 39) (ne : a ≠ b) : SpecX (w_swap_flip K cl (.int a, .int b, ())) S (· = ((maskI (isort [a, b])).toNat, (maskI (isort [a, b])).toNat)) := by
  have p := pair_two ha hb ne
  have c := (cells_perm (s := 40) (ns := [a, b]) (fun x hx => by simp only [List.mem_cons, List.not_mem_nil, or_false] at hx; omega) (by simp; omega)).2
  unfold w_swap_flip
  wtm_at "m"
  rw [v_require_cell, show intIn (.int a) 1 (40 - 1) = true by simp [intIn]; omega, if_t]
  wtm_at "m"
  rw [v_require_cell, show intIn (.int b) 1 (40 - 1) = true by simp [intIn]; omega, if_t]
  wtm_at "m"
  rw [ass_t ⟨(shp_int (n := 1)).shaped (by decide), (shp_int (n := 1)).shaped (by decide)⟩, show PyData.eqv (.int a) (.int b) = decide (a = b) from eqc_int a b, decide_eq_false ne, if_f]
  exact (v_Flip c c (p.flip (Nat.le_refl _)) (fun ds e => by cases e; simp) (fun ds e => by cases e; simp)).x
theorem raises_swap1 {d e : PyData} {S : Store K} (h : intIn d 1 39 = false) : Raises (w_swap_flip K cl (d, e, ())) S (cl.NoCell, [("cell", kPy d)]) := by
  intro Q E q
  unfold w_swap_flip
  wtm_at "m"
  rw [v_require_cell, show intIn d 1 (40 - 1) = false from h, if_f]
  exact q S TL.Ext.refl
theorem raises_swap2 {d e : PyData} {S : Store K} (h : intIn d 1 39 = true) (h2 : intIn e 1 39 = false) : Raises (w_swap_flip K cl (d, e, ())) S (cl.NoCell, [("cell", kPy e)]) := by
  intro Q E q
  unfold w_swap_flip
  wtm_at "m"
  rw [v_require_cell, show intIn d 1 (40 - 1) = true from h, if_t]
  wtm_at "m"
  rw [v_require_cell, show intIn e 1 (40 - 1) = false from h2, if_f]
  exact q S TL.Ext.refl
theorem raises_swap3 {a : Int} {S : Store K} (ha : 1 ≤ a ∧ a ≤ 39) : Raises (w_swap_flip K cl (.int a, .int a, ())) S (cl.NoCell, [("cell", kPy (.int a))]) := by
  intro Q E q
  have e : w_swap_flip K cl (.int a, .int a, ()) = wRaise (cl.NoCell, [("cell", kPy (.int a))]) := by
    unfold w_swap_flip
    wtm_at "m"
    rw [v_require_cell, show intIn (.int a) 1 (40 - 1) = true by simp [intIn]; omega, if_t]
    wtm_at "m"
    rw [ass_t ⟨(shp_int (n := 1)).shaped (by decide), (shp_int (n := 1)).shaped (by decide)⟩, show PyData.eqv (.int a) (.int a) = decide (a = a) from eqc_int a a, decide_eq_true rfl, if_t]
  rw [e]
  exact q S TL.Ext.refl
theorem met_turn (T : Tx K mg cl) (d : PyData) {S : Store K} : SpecX (w__law_met K cl (w_turn_flip K cl (d, ())) ((), ())) S (· = if intIn d 1 39 = true then [.str "flip", .tuple ([0].map .int), .tuple ([d].map id)] else [.str "cell", d, .bool true]) := by
  cases h : intIn d 1 39 with
  | false => exact met_cell T (raises_turn h)
  | true =>
    obtain ⟨k, rfl, h1, h2⟩ := int_of h
    exact met_flip (ts := [0]) (gs := [k]) (by simp) (by simp) (by simp; omega) (by simp) (v_turn_flip ⟨h1, h2⟩)
theorem met_add (T : Tx K mg cl) (d e : PyData) {S : Store K} : SpecX (w__law_met K cl (w_add_flip K cl (d, e, ())) ((), ())) S (· = dueD d e 0 false) := by
  unfold dueD
  cases h : intIn d 0 39 with
  | false => exact met_cell T (raises_add1 h)
  | true =>
    obtain ⟨a, rfl, a1, a2⟩ := int_of h
    cases h2 : intIn e 1 39 with
    | false =>
      have r := met_cell T (raises_add2 (S := S) h h2)
      cases e with
      | int b => simpa [h2] using r
      | _ => exact r
    | true =>
      obtain ⟨b, rfl, b1, b2⟩ := int_of h2
      by_cases ne : a = b
      · subst ne
        have r := met_cell T (raises_add3 (S := S) ⟨b1, b2⟩)
        simpa using r
      · have r := met_flip (cl := cl) (m := w_add_flip K cl (.int a, .int b, ())) (ts := [a]) (gs := [b]) (by simp; omega) (by simp) (by simp; omega) (by simp) (v_add_flip (S := S) ⟨a1, a2⟩ ⟨b1, b2⟩ ne)
        simpa [h2, ne] using r
theorem met_swap (T : Tx K mg cl) (d e : PyData) {S : Store K} : SpecX (w__law_met K cl (w_swap_flip K cl (d, e, ())) ((), ())) S (· = dueD d e 1 true) := by
  unfold dueD
  cases h : intIn d 1 39 with
  | false => exact met_cell T (raises_swap1 h)
  | true =>
    obtain ⟨a, rfl, a1, a2⟩ := int_of h
    cases h2 : intIn e 1 39 with
    | false =>
      have r := met_cell T (raises_swap2 (S := S) h h2)
      cases e with
      | int b => simpa [h2] using r
      | _ => exact r
    | true =>
      obtain ⟨b, rfl, b1, b2⟩ := int_of h2
      by_cases ne : a = b
      · subst ne
        have r := met_cell T (raises_swap3 (S := S) ⟨b1, b2⟩)
        simpa using r
      · have p := pair_two ⟨a1, a2⟩ ⟨b1, b2⟩ ne
        have r := met_flip (cl := cl) (m := w_swap_flip K cl (.int a, .int b, ())) (ts := isort [a, b]) (gs := isort [a, b]) (fun x hx => by have := p.tr x hx; omega) p.ta (fun x hx => by have := p.tr x hx; omega) p.ta (v_swap_flip (S := S) ⟨a1, a2⟩ ⟨b1, b2⟩ ne)
        simpa [h2, ne] using r
theorem tame_ints2 {ns : List Int} (h : ∀ n ∈ ns, n.natAbs < 2 ^ 250) (hl : ns.length ≤ 64) : Tame (.tuple (ns.map .int)) 5 1000 := (tame_tupI' h hl).mono (by decide) (by omega)
theorem tame_flipD {ts gs : List Int} (ht : ∀ n ∈ ts, n.natAbs < 2 ^ 250) (hg : ∀ n ∈ gs, n.natAbs < 2 ^ 250) (lt : ts.length ≤ 64) (lg : gs.length ≤ 64) : Tame (.list (flipD ts gs)) 40 50000 :=
  (tame_lst (tameL_cons (show Tame (.str "flip") 5 1000 from (tame_str (n := 10) (by decide +kernel) (by decide +kernel)).mono (by decide) (by decide)) (tameL_cons (tame_ints2 ht lt) (tameL_cons (tame_ints2 hg lg) (tameL_nil.mono (by decide) (Nat.le_refl _)))))).mono (by decide) (by decide)
theorem tame_cellD {d : PyData} (t : Tame d 5 1000) : Tame (.list [.str "cell", d, .bool true]) 40 50000 :=
  (tame_lst (tameL_cons (show Tame (.str "cell") 5 1000 from (tame_str (n := 10) (by decide +kernel) (by decide +kernel)).mono (by decide) (by decide)) (tameL_cons t (tameL_cons (show Tame (.bool true) 5 1000 from tame_bool.mono (by decide) (by decide)) (tameL_nil.mono (by decide) (Nat.le_refl _)))))).mono (by decide) (by decide)
theorem tame_dueD {d e : PyData} (td : Tame d 5 1000) (te : Tame e 5 1000) (least : Int) (sw : Bool) (l0 : 0 ≤ least) : Tame (.list (dueD d e least sw)) 40 50000 := by
  unfold dueD
  cases h : intIn d least 39 with
  | false => exact tame_cellD td
  | true =>
    obtain ⟨a, rfl, a1, a2⟩ := int_of h
    have sm : ∀ x : Int, x.natAbs ≤ 40 → x.natAbs < 2 ^ 250 := fun x hx => Nat.lt_of_le_of_lt hx (by decide)
    cases e with
    | int b =>
      show Tame (.list (if intIn (.int b) 1 39 = true ∧ a ≠ b then (if sw = true then flipD (isort [a, b]) (isort [a, b]) else flipD [a] [b]) else [.str "cell", .int b, .bool true])) 40 50000
      by_cases c : intIn (.int b) 1 39 = true ∧ a ≠ b
      · rw [if_pos c]
        obtain ⟨b', eb, b1, b2⟩ := int_of c.1
        cases eb
        have si : ∀ x ∈ isort [a, b], x.natAbs < 2 ^ 250 := fun x hx => by
          have := (isort_perm [a, b]).subset hx
          simp only [List.mem_cons, List.not_mem_nil, or_false] at this
          exact sm x (by omega)
        have li : (isort [a, b]).length ≤ 64 := by rw [(isort_perm _).length_eq]; simp
        cases sw
        · exact tame_flipD (fun x hx => by rw [List.mem_singleton.mp hx]; exact sm a (by omega)) (fun x hx => by rw [List.mem_singleton.mp hx]; exact sm b (by omega)) (by simp) (by simp)
        · exact tame_flipD si si li li
      · rw [if_neg c]
        exact tame_cellD te
    | _ => exact tame_cellD te
theorem bits_set {n m m' i : Nat} (hi : i < n) (h : ∀ j, j ≠ i → m'.testBit j = m.testBit j) : (bitsOf n m).set i (bitI m' i) = bitsOf n m' := by
  refine List.ext_getElem? fun j => ?_
  rw [List.getElem?_set]
  unfold bitsOf
  simp only [List.getElem?_map, List.length_map, List.length_range]
  by_cases e : i = j
  · subst e
    rw [if_pos rfl, if_pos hi, List.getElem?_range hi]
    rfl
  · rw [if_neg e]
    cases hr : (List.range n)[j]? with
    | none => rfl
    | some k =>
      have hk : k = j := by
        have := (List.getElem?_eq_some_iff.mp hr).2
        rw [List.getElem_range] at this
        exact this.symm
      subst hk
      simp only [Option.map_some, bitI, h k (fun z => e z.symm)]
theorem bits_set2 {n m m' a b : Nat} (ha : a < n) (hb : b < n) (h : ∀ j, j ≠ a → j ≠ b → m'.testBit j = m.testBit j) : ((bitsOf n m).set a (bitI m' a)).set b (bitI m' b) = bitsOf n m' := by
  refine List.ext_getElem? fun j => ?_
  rw [List.getElem?_set, List.getElem?_set]
  unfold bitsOf
  simp only [List.getElem?_map, List.length_map, List.length_range, List.length_set]
  by_cases e : b = j
  · subst e
    rw [if_pos rfl, if_pos hb, List.getElem?_range hb]
    rfl
  · rw [if_neg e]
    by_cases e2 : a = j
    · subst e2
      rw [if_pos rfl, if_pos ha, List.getElem?_range ha]
      rfl
    · rw [if_neg e2]
      cases hr : (List.range n)[j]? with
      | none => rfl
      | some k =>
        have hk : k = j := by
          have := (List.getElem?_eq_some_iff.mp hr).2
          rw [List.getElem_range] at this
          exact this.symm
        subst hk
        simp only [Option.map_some, bitI, h k (fun z => e2 z.symm) (fun z => e z.symm)]
theorem bits_get {n m i : Nat} (hi : i < n) : (bitsOf n m)[i]? = some (bitI m i) := by
  unfold bitsOf
  rw [List.getElem?_map, List.getElem?_range hi]
  rfl
theorem after_bit {n m : Nat} {ts gs : List Int} (h : PairOk n ts gs) (hn : n ≤ 64) (j : Nat) : (afterM m (maskI ts).toNat (maskI gs).toNat).testBit j = if bitSum m ts % 2 = 0 then m.testBit j else (m.testBit j ^^ decide ((j : Int) ∈ gs)) := by
  by_cases e : bitSum m ts % 2 = 0
  · rw [afterM_bits h hn e, if_pos e]
  · rw [afterM_bits1 h hn e, if_neg e, Nat.testBit_xor, mask_bit j (fun g hg => by have := h.gr g hg; omega) h.gn]
theorem bitSum1 (m : Nat) (a : Nat) : bitSum m [(a : Int)] = bitI m a := by simp [bitSum]
theorem bitSum2 (m : Nat) (a b : Nat) : bitSum m [(a : Int), (b : Int)] = bitI m a + bitI m b := by simp [bitSum]
theorem bitI_of (m i : Nat) : bitI m i = if m.testBit i then 1 else 0 := by unfold bitI; rfl
theorem v_law_effects_right {p : Addr} {S : Store K} (hp : S p = some .pot) : SpecX (w__law_effects_right K cl (p, ())) S (· = true) := by
  intro Q E q
  unfold w__law_effects_right
  wtm_at "m"
  refine (v_law_draw hp (by omega) (by omega)).ap fun d hd => ?_
  obtain ⟨n, en⟩ : ∃ n : Nat, 3 + d = (n : Int) := ⟨(3 + d).toNat, by omega⟩
  rw [en]
  refine (v_law_bits hp (by omega) (by omega)).ap fun b hb => ?_
  obtain ⟨m, hm, od, rfl⟩ := hb
  refine (v_law_draw hp (by omega) (by omega)).ap fun d2 hd2 => ?_
  obtain ⟨a, ea⟩ : ∃ a : Nat, 1 + d2 = (a : Int) := ⟨(1 + d2).toNat, by omega⟩
  rw [ea]
  have a1 : 1 ≤ a := by omega
  have an : a < n := by omega
  have n40 : n ≤ 40 := by omega
  have n3 : 3 ≤ n := by omega
  rw [fmap_filt (c' := fun s : Int => !decide (s = (a : Int))) fun _ _ => rfl]
  wtm_at "m"
  have lr : (rng 1 (n : Int)).length = n - 1 := by rw [rng_len]; omega
  refine ⟨by omega, by rw [lr]; omega, ?_⟩
  refine (v_law_draw hp (by omega) (by omega)).ap fun i hi => ?_
  have nd : (rng 1 (n : Int)).Nodup := rg_lt.imp fun h => by omega
  have lf : ((rng 1 (n : Int)).filter fun s => !decide (s = (a : Int))).length = n - 2 := by
    have e := nd.erase_eq_filter (a : Int)
    have am : (a : Int) ∈ rng 1 (n : Int) := List.mem_map.mpr ⟨a - 1, List.mem_range.mpr (by omega), by omega⟩
    rw [show (fun s : Int => !decide (s = (a : Int))) = (fun s => s != (a : Int)) from by funext s; exact congrArg (!·) (by by_cases h : s = (a : Int) <;> simp [h]), ← e, List.length_erase_of_mem am, lr]
    omega
  refine (Spec.ix hi.1 (by rw [lf]; omega)).ap fun f hf => ?_
  rw [List.mem_filter] at hf
  have hf1 := rg_mem hf.1
  obtain ⟨b, eb⟩ : ∃ b : Nat, f = (b : Int) := ⟨f.toNat, by omega⟩
  subst eb
  have ne : a ≠ b := fun z => by have := hf.2; rw [z] at this; simp at this
  have b1 : 1 ≤ b := by omega
  have bn : b < n := by omega
  refine thaw_ap fun x hx => ?_
  refine thaw_ap fun y hy => ?_
  refine thaw_ap fun z hz => ?_
  have yx : y ≠ x := fun w => by rw [w, set_same] at hy; cases hy
  have sy : S y = none := (set_ne yx).symm.trans hy
  have zy : z ≠ y := fun w => by rw [w, set_same] at hz; cases hz
  have hz1 := (set_ne zy).symm.trans hz
  have zx : z ≠ x := fun w => by rw [w, set_same] at hz1; cases hz1
  have sz : S z = none := (set_ne zx).symm.trans hz1
  have ia : (wIx (bitsOf n m) (a : Int) : W K Int) = ret (bitI m a) := ix_eq (by omega) (by rw [Int.toNat_natCast]; exact bits_get an)
  have ib : (wIx (bitsOf n m) (b : Int) : W K Int) = ret (bitI m b) := ix_eq (by omega) (by rw [Int.toNat_natCast]; exact bits_get bn)
  simp only [ia, ib]
  wtm_at "m"
  obtain ⟨L, eL⟩ : ∃ L, L = (bitsOf n m).map (kI (K := K)) := ⟨_, rfl⟩
  have lL : L.length = n := by rw [eL, List.length_map, bitsOf_len]
  rw [← eL]
  have at1 : (((S.set x (.lst L)).set y (.lst L)).set z (.lst L)) x = some (.lst L) := (set_ne zx.symm).trans ((set_ne yx.symm).trans set_same)
  have at2 : (((S.set x (.lst L)).set y (.lst L)).set z (.lst L)) y = some (.lst L) := (set_ne zy.symm).trans set_same
  have at3 : (((S.set x (.lst L)).set y (.lst L)).set z (.lst L)) z = some (.lst L) := set_same
  have out : ∀ p, p ≠ x → p ≠ y → p ≠ z → (((S.set x (.lst L)).set y (.lst L)).set z (.lst L)) p = S p := fun p h1 h2 h3 => (set_ne h3).trans ((set_ne h2).trans (set_ne h1))
  generalize (((S.set x (.lst L)).set y (.lst L)).set z (.lst L)) = S1 at at1 at2 at3 out
  refine setI_ap at1 (by omega) (by omega) ?_
  rw [Int.toNat_natCast]
  refine ⟨by decide, ?_⟩
  refine setI_ap ((set_ne yx).trans at2) (by omega) (by omega) ?_
  rw [Int.toNat_natCast]
  refine setI_ap ((set_ne zy).trans ((set_ne zx).trans at3)) (by omega) (by omega) ?_
  rw [Int.toNat_natCast]
  refine setI_ap set_same (by omega) (by rw [List.length_set]; omega) ?_
  rw [Int.toNat_natCast, set_set]
  have b1 : (((S1.set x (.lst (L.set a (kI (1 - bitI m a))))).set y (.lst (L.set b (kI ((bitI m a + bitI m b) % 2))))).set z (.lst ((L.set a (kI (bitI m b))).set b (kI (bitI m a))))) x = some (.lst (L.set a (kI (1 - bitI m a)))) := (set_ne zx.symm).trans ((set_ne yx.symm).trans set_same)
  have b2 : (((S1.set x (.lst (L.set a (kI (1 - bitI m a))))).set y (.lst (L.set b (kI ((bitI m a + bitI m b) % 2))))).set z (.lst ((L.set a (kI (bitI m b))).set b (kI (bitI m a))))) y = some (.lst (L.set b (kI ((bitI m a + bitI m b) % 2)))) := (set_ne zy.symm).trans set_same
  have b3 : (((S1.set x (.lst (L.set a (kI (1 - bitI m a))))).set y (.lst (L.set b (kI ((bitI m a + bitI m b) % 2))))).set z (.lst ((L.set a (kI (bitI m b))).set b (kI (bitI m a))))) z = some (.lst ((L.set a (kI (bitI m b))).set b (kI (bitI m a)))) := set_same
  have out2 : ∀ p c, S p = some c → p ≠ x ∧ p ≠ y ∧ p ≠ z ∧ (((S1.set x (.lst (L.set a (kI (1 - bitI m a))))).set y (.lst (L.set b (kI ((bitI m a + bitI m b) % 2))))).set z (.lst ((L.set a (kI (bitI m b))).set b (kI (bitI m a))))) p = some c := fun p c e => by
    have h1 : p ≠ x := fun w => by rw [w, hx] at e; cases e
    have h2 : p ≠ y := fun w => by rw [w, sy] at e; cases e
    have h3 : p ≠ z := fun w => by rw [w, sz] at e; cases e
    exact ⟨h1, h2, h3, (set_ne h3).trans ((set_ne h2).trans ((set_ne h1).trans ((out p h1 h2 h3).trans e)))⟩
  generalize (((S1.set x (.lst (L.set a (kI (1 - bitI m a))))).set y (.lst (L.set b (kI ((bitI m a + bitI m b) % 2))))).set z (.lst ((L.set a (kI (bitI m b))).set b (kI (bitI m a))))) = S2 at b1 b2 b3 out2
  refine (v_law_made hm (by omega) n40 od).ap fun w hw => ?_
  subst hw
  have p1 : PairOk n [0] [(a : Int)] := ⟨by simp; omega, by simp, by simp; omega, by simp, by rw [List.filter_cons_of_neg (by simp; omega)]; rfl⟩
  have p2 : PairOk n [(a : Int)] [(b : Int)] := ⟨by simp; omega, by simp, by simp; omega, by simp, by rw [List.filter_cons_of_neg (by simp; omega)]; rfl⟩
  have nab : ¬ (a : Int) = (b : Int) := by omega
  have r3 : ∀ t ∈ isort [(a : Int), (b : Int)], 1 ≤ t ∧ t < (n : Int) := fun t ht => by
    have := (isort_perm [(a : Int), (b : Int)]).subset ht
    simp only [List.mem_cons, List.not_mem_nil, or_false] at this
    omega
  have p3 : PairOk n (isort [(a : Int), (b : Int)]) (isort [(a : Int), (b : Int)]) := ⟨fun t ht => by have := r3 t ht; omega, two_asc nab, r3, two_asc nab, by
    rw [List.filter_eq_self.mpr (fun x hx => decide_eq_true hx), (isort_perm _).length_eq]
    simp⟩
  have o0 : bitSum m [0] % 2 ≠ 0 := by rw [show bitSum m [0] = bitI m 0 by simp [bitSum], bitI_of, od]; decide
  refine (v_turn_flip (k := (a : Int)) ⟨by omega, by omega⟩).ap fun f S3 x3 hf => ?_
  subst hf
  refine (v_apply_flip (by omega) n40 (p1.flip n40) (p1.wid (by omega)) hm od).ap fun g hg => ?_
  subst hg
  have e1 : L.set a (kI (1 - bitI m a)) = (bitsOf n (afterM m (maskI [0]).toNat (maskI [(a : Int)]).toNat)).map (kI (K := K)) := by
    rw [eL, ← List.map_set]
    refine congrArg _ (Eq.trans (congrArg _ ?_) (bits_set an fun j hj => ?_))
    · rw [bitI_of, bitI_of, after_bit p1 (by omega), if_neg o0]
      cases m.testBit a <;> simp
    · rw [after_bit p1 (by omega), if_neg o0, decide_eq_false (fun h => hj (by rw [List.mem_singleton] at h; omega)), Bool.xor_false]
  have l1 := afterM_lt (t := (maskI [0]).toNat) hm ((widM_le (show 1 ≤ n by omega)).mp (p1.wid (by omega))).2
  have o1 := afterM_odd (t := (maskI [0]).toNat) od (p1.flip n40).fix
  refine ⟨_, by rw [x3 _ _ b1, e1], ?_⟩
  refine (v_law_is_so l1 (by omega) n40 o1).ap fun r hr => ?_
  subst hr
  wtm_at "m"
  have x3y : (S3.del x) y = some (.lst (L.set b (kI ((bitI m a + bitI m b) % 2)))) := (del_ne yx).trans (x3 _ _ b2)
  have x3z : (S3.del x) z = some (.lst ((L.set a (kI (bitI m b))).set b (kI (bitI m a)))) := (del_ne zx).trans (x3 _ _ b3)
  have out3 : ∀ p c, S p = some c → p ≠ x ∧ p ≠ y ∧ p ≠ z ∧ (S3.del x) p = some c := fun p c e => by
    obtain ⟨h1, h2, h3, h4⟩ := out2 p c e
    exact ⟨h1, h2, h3, (del_ne h1).trans (x3 _ _ h4)⟩
  generalize S3.del x = S4 at x3y x3z out3
  refine (v_add_flip (a := (a : Int)) (b := (b : Int)) ⟨by omega, by omega⟩ ⟨by omega, by omega⟩ nab).ap fun f S5 x5 hf => ?_
  subst hf
  refine (v_apply_flip (by omega) n40 (p2.flip n40) (p2.wid (by omega)) hm od).ap fun g hg => ?_
  subst hg
  have e2 : L.set b (kI ((bitI m a + bitI m b) % 2)) = (bitsOf n (afterM m (maskI [(a : Int)]).toNat (maskI [(b : Int)]).toNat)).map (kI (K := K)) := by
    rw [eL, ← List.map_set]
    refine congrArg _ (Eq.trans (congrArg _ ?_) (bits_set bn fun j hj => ?_))
    · rw [bitI_of m a, bitI_of m b, bitI_of, after_bit p2 (by omega), bitSum1, bitI_of]
      cases m.testBit a <;> cases m.testBit b <;> simp
    · rw [after_bit p2 (by omega), decide_eq_false (fun h => hj (by rw [List.mem_singleton] at h; omega)), Bool.xor_false, ite_self]
  have l2 := afterM_lt (t := (maskI [(a : Int)]).toNat) hm ((widM_le (show 1 ≤ n by omega)).mp (p2.wid (by omega))).2
  have o2 := afterM_odd (t := (maskI [(a : Int)]).toNat) od (p2.flip n40).fix
  refine ⟨_, by rw [x5 _ _ x3y, e2], ?_⟩
  refine (v_law_is_so l2 (by omega) n40 o2).ap fun r hr => ?_
  subst hr
  wtm_at "m"
  have x5z : (S5.del y) z = some (.lst ((L.set a (kI (bitI m b))).set b (kI (bitI m a)))) := (del_ne zy).trans (x5 _ _ x3z)
  have out5 : ∀ p c, S p = some c → p ≠ x ∧ p ≠ y ∧ p ≠ z ∧ (S5.del y) p = some c := fun p c e => by
    obtain ⟨h1, h2, h3, h4⟩ := out3 p c e
    exact ⟨h1, h2, h3, (del_ne h2).trans (x5 _ _ h4)⟩
  generalize S5.del y = S6 at x5z out5
  refine (v_swap_flip (a := (a : Int)) (b := (b : Int)) ⟨by omega, by omega⟩ ⟨by omega, by omega⟩ nab).ap fun f S7 x7 hf => ?_
  subst hf
  refine (v_apply_flip (by omega) n40 (p3.flip n40) (p3.wid (by omega)) hm od).ap fun g hg => ?_
  subst hg
  have bs : bitSum m (isort [(a : Int), (b : Int)]) = bitI m a + bitI m b := by rw [bitSum_perm (isort_perm _), bitSum2]
  have mi : ∀ j : Nat, decide ((j : Int) ∈ isort [(a : Int), (b : Int)]) = (decide (j = a) || decide (j = b)) := fun j => by
    have e : ((j : Int) ∈ isort [(a : Int), (b : Int)]) ↔ (j = a ∨ j = b) := (isort_perm _).mem_iff.trans (by simp only [List.mem_cons, List.not_mem_nil, or_false]; omega)
    rw [decide_eq_decide.mpr e]
    exact Bool.decide_or _ _
  have e3 : (L.set a (kI (bitI m b))).set b (kI (bitI m a)) = (bitsOf n (afterM m (maskI (isort [(a : Int), (b : Int)])).toNat (maskI (isort [(a : Int), (b : Int)])).toNat)).map (kI (K := K)) := by
    have ba : bitI m b = bitI (afterM m (maskI (isort [(a : Int), (b : Int)])).toNat (maskI (isort [(a : Int), (b : Int)])).toNat) a := by
      rw [bitI_of m b, bitI_of, after_bit p3 (by omega), bs, mi, bitI_of, bitI_of]
      cases m.testBit a <;> cases m.testBit b <;> simp
    have bb : bitI m a = bitI (afterM m (maskI (isort [(a : Int), (b : Int)])).toNat (maskI (isort [(a : Int), (b : Int)])).toNat) b := by
      rw [bitI_of m a, bitI_of, after_bit p3 (by omega), bs, mi, bitI_of, bitI_of]
      cases m.testBit a <;> cases m.testBit b <;> simp
    rw [eL, ← List.map_set, ← List.map_set]
    refine congrArg _ ?_
    rw [ba, bb]
    refine bits_set2 an bn fun j h1 h2 => ?_
    rw [after_bit p3 (by omega), mi, decide_eq_false h1, decide_eq_false h2, Bool.or_false, Bool.xor_false, ite_self]
  have l3 := afterM_lt (t := (maskI (isort [(a : Int), (b : Int)])).toNat) hm ((widM_le (show 1 ≤ n by omega)).mp (p3.wid (by omega))).2
  have o3 := afterM_odd (t := (maskI (isort [(a : Int), (b : Int)])).toNat) od (p3.flip n40).fix
  refine ⟨_, by rw [x7 _ _ x5z, e3], ?_⟩
  refine v_law_is_so l3 (by omega) n40 o3 _ _ fun r hr => q _ _ (fun p c e => ?_) hr
  obtain ⟨h1, h2, h3, h4⟩ := out5 p c e
  exact (del_ne h3).trans (x7 _ _ h4)
theorem law_rest (T : Tx K mg cl) {d e : PyData} (td : Tame d 5 1000) (te : Tame e 5 1000) {S : Store K} (hS : S cl.tb_law = some (.tab q_law)) {Q : Flow Unit Bool → Store K → Prop} {E : Err K → Store K → Prop} (q : ∀ S', TL.Ext S S' → Q (Flow.nx ()) S') :
    (bnd (wLam cl.tb_law q_law (w__law_met K cl (w_add_flip K cl (d, e, ())) ((), ()))) fun x => wAss (Tame (PyData.list (List.map id x)) 40 50000) (bnd (w__law_due K cl (d, e, 0, false, ())) fun y => wAss (Tame (PyData.list (List.map id y)) 40 50000)
      (wIf (decide ((PyData.list (List.map id x)).shown = (PyData.list (List.map id y)).shown)) (bnd (wLam cl.tb_law q_law (w__law_met K cl (w_swap_flip K cl (d, e, ())) ((), ()))) fun x => wAss (Tame (PyData.list (List.map id x)) 40 50000) (bnd (w__law_due K cl (d, e, 1, true, ())) fun y => wAss (Tame (PyData.list (List.map id y)) 40 50000)
        (wIf (decide ((PyData.list (List.map id x)).shown = (PyData.list (List.map id y)).shown)) (TL.ret (Flow.nx ()) : W K (Flow Unit Bool)) (TL.ret (Flow.rt false))))) (TL.ret (Flow.rt false))))) Q E S := by
  refine (lamX hS (met_add T d e)).ap fun y S1 x1 hy => ?_
  subst hy
  have t1 : Tame (PyData.list (List.map id (dueD d e 0 false))) 40 50000 := by rw [List.map_id]; exact tame_dueD td te 0 false (by decide)
  refine ⟨t1, ?_⟩
  rw [v_law_due, ret_bnd]
  refine ⟨t1, ?_⟩
  rw [decide_eq_true rfl, if_t]
  refine (lamX (x1 _ _ hS) (met_swap T d e)).ap fun y S2 x2 hy => ?_
  subst hy
  have t2 : Tame (PyData.list (List.map id (dueD d e 1 true))) 40 50000 := by rw [List.map_id]; exact tame_dueD td te 1 true (by decide)
  refine ⟨t2, ?_⟩
  rw [v_law_due, ret_bnd]
  refine ⟨t2, ?_⟩
  rw [decide_eq_true rfl, if_t]
  exact q _ (x1.trans x2)
theorem law_holds (T : Tx K mg cl) (ns : List Int) (h : ns.length ≤ 63) : w_law K cl (ns, ()) (fun b _ => b = true) (fun _ _ => False) (tabsS (tabs cl)) := by
  have t1 : tabsS (K := K) (tabs cl) cl.tb_law = some (.tab q_law) := tabsS_at (p := (cl.tb_law, q_law)) T.tnd (by simp)
  unfold w_law
  wtm_at "m"
  refine ⟨by omega, ?_⟩
  refine for_ap (fun _ _ S => S cl.tb_law = some (.tab q_law)) ?_ ?_ t1
  · rintro i k s S N hk h1 hN
    have hk' := rg_mem (List.mem_of_getElem? hk)
    refine ⟨trivial, (show (0 : Int) ≤ k by omega), (show k < 100 by omega), fun p hp => ?_⟩
    have hp' : (S.set p .pot) p = some (Cell.pot (K := K)) := set_same
    have h1' := (set_ne (c := Cell.pot (K := K)) (show cl.tb_law ≠ p from fun z => by rw [z, hp] at h1; cases h1)).trans h1
    generalize S.set p .pot = S1 at hp' h1'
    refine ⟨by decide, ?_⟩
    refine for_ap (fun _ _ S => S p = some .pot ∧ S cl.tb_law = some (.tab q_law)) ?_ ?_ ⟨hp', h1'⟩
    · rintro i t s S2 N2 ht ⟨hp2, h2⟩ hN2
      refine ⟨trivial, ?_⟩
      refine (v_law_one hp2).ap fun d td => ?_
      refine (v_law_one hp2).ap fun e te => ?_
      rw [v_law_is_int, ret_bnd]
      have mt := met_turn T d (S := S2)
      cases hb : intIn d 1 39 with
      | true =>
        rw [if_t]
        rw [hb, if_pos rfl] at mt
        refine (lamX h2 mt).ap fun y S3 x3 hy => ?_
        subst hy
        obtain ⟨a, rfl, a1, a2⟩ := int_of hb
        have sm : ∀ x : Int, x.natAbs ≤ 40 → x.natAbs < 2 ^ 250 := fun x hx => Nat.lt_of_le_of_lt hx (by decide)
        have t1 : Tame (PyData.list (List.map id [PyData.str "flip", .tuple ([0].map .int), .tuple ([PyData.int a].map id)])) 40 50000 := by
          rw [List.map_id]
          exact tame_flipD (ts := [0]) (gs := [a]) (fun x hx => by rw [List.mem_singleton.mp hx]; decide) (fun x hx => by rw [List.mem_singleton.mp hx]; exact sm a (by omega)) (by simp) (by simp)
        refine ⟨t1, t1, ?_⟩
        rw [decide_eq_true rfl, if_t]
        exact law_rest T td te (x3 _ _ h2) fun S4 x4 => hN2 _ _ ⟨x4 _ _ (x3 _ _ hp2), x4 _ _ (x3 _ _ h2)⟩
      | false =>
        rw [if_f]
        rw [hb, if_neg (by decide)] at mt
        refine (lamX h2 mt).ap fun y S3 x3 hy => ?_
        subst hy
        have t1 : Tame (PyData.list (List.map id [PyData.str "cell", d, .bool true])) 40 50000 := by
          rw [List.map_id]
          exact tame_cellD td
        refine ⟨t1, t1, ?_⟩
        rw [decide_eq_true rfl, if_t]
        exact law_rest T td te (x3 _ _ h2) fun S4 x4 => hN2 _ _ ⟨x4 _ _ (x3 _ _ hp2), x4 _ _ (x3 _ _ h2)⟩
    · rintro s S2 ⟨hp2, h2⟩
      refine ⟨trivial, ?_⟩
      refine (v_law_effects_right hp2).ap fun y S3 x3 hy => ?_
      subst hy
      rw [if_t]
      exact hN _ _ (x3 _ _ h2)
  · rintro s S _
    exact ⟨trivial, rfl⟩
end
/-! ### what the top has written; the law's own head -/
theorem all_mk {l : PySem.W.OpenLaw} {w : World} {K : PySem.W.Frag} {h : Heap} {mg : Str → Option Value} {fa : Addr} {qq : Program} (X : K.In h) (G : h.Ns mainGlobals mg)
    (hTab : ∀ (y : Str) (c P : Addr), ((recsOf qq).find? (fun e => e.name == y)).isSome = true → PySem.W.tabIn K y = some (c, P) → PySem.W.CodeHd h c P ∧ h.get? P = some (PySem.W.tabObj #[])) (hfa : mg "law" = some (.ref fa))
    {f_law_pot : Addr} {od_law_pot an_law_pot : Option Addr} {sl_law_pot : Array (Option Value)} {oc_law_pot kV_law_pot dc_law_pot pm_law_pot cd_law_pot ct_law_pot : Value}
    {f_law_draw : Addr} {od_law_draw an_law_draw : Option Addr} {sl_law_draw : Array (Option Value)} {oc_law_draw kV_law_draw dc_law_draw pm_law_draw cd_law_draw ct_law_draw : Value}
    {f_law_any_thing : Addr} {od_law_any_thing an_law_any_thing : Option Addr} {sl_law_any_thing : Array (Option Value)} {oc_law_any_thing kV_law_any_thing dc_law_any_thing pm_law_any_thing cd_law_any_thing ct_law_any_thing : Value}
    {f_law_one : Addr} {od_law_one an_law_one : Option Addr} {sl_law_one : Array (Option Value)} {oc_law_one kV_law_one dc_law_one pm_law_one cd_law_one ct_law_one : Value}
    {f_law_is_int : Addr} {od_law_is_int an_law_is_int : Option Addr} {sl_law_is_int : Array (Option Value)} {oc_law_is_int kV_law_is_int dc_law_is_int pm_law_is_int cd_law_is_int ct_law_is_int : Value}
    {f_cells_in : Addr} {od_cells_in an_cells_in : Option Addr} {sl_cells_in : Array (Option Value)} {oc_cells_in kV_cells_in dc_cells_in pm_cells_in cd_cells_in ct_cells_in : Value}
    {f_Flip__toggled : Addr} {od_Flip__toggled an_Flip__toggled : Option Addr} {sl_Flip__toggled : Array (Option Value)} {oc_Flip__toggled kV_Flip__toggled dc_Flip__toggled pm_Flip__toggled cd_Flip__toggled ct_Flip__toggled : Value}
    {f_Flip__tested : Addr} {od_Flip__tested an_Flip__tested : Option Addr} {sl_Flip__tested : Array (Option Value)} {oc_Flip__tested kV_Flip__tested dc_Flip__tested pm_Flip__tested cd_Flip__tested ct_Flip__tested : Value}
    {f_law_met : Addr} {od_law_met an_law_met : Option Addr} {sl_law_met : Array (Option Value)} {oc_law_met kV_law_met dc_law_met pm_law_met cd_law_met ct_law_met : Value}
    {f_is_integer_in : Addr} {od_is_integer_in an_is_integer_in : Option Addr} {sl_is_integer_in : Array (Option Value)} {oc_is_integer_in kV_is_integer_in dc_is_integer_in pm_is_integer_in cd_is_integer_in ct_is_integer_in : Value}
    {f_require_cell : Addr} {od_require_cell an_require_cell : Option Addr} {sl_require_cell : Array (Option Value)} {oc_require_cell kV_require_cell dc_require_cell pm_require_cell cd_require_cell ct_require_cell : Value}
    {f_mask_of : Addr} {od_mask_of an_mask_of : Option Addr} {sl_mask_of : Array (Option Value)} {oc_mask_of kV_mask_of dc_mask_of pm_mask_of cd_mask_of ct_mask_of : Value}
    {f_is_cell : Addr} {od_is_cell an_is_cell : Option Addr} {sl_is_cell : Array (Option Value)} {oc_is_cell dc_is_cell pm_is_cell cd_is_cell ct_is_cell : Value} {kd_is_cell : Addr}
    {kt_is_cell_0 : Tok}
    {f_cell_tuple : Addr} {od_cell_tuple an_cell_tuple : Option Addr} {sl_cell_tuple : Array (Option Value)} {oc_cell_tuple dc_cell_tuple pm_cell_tuple cd_cell_tuple ct_cell_tuple : Value} {kd_cell_tuple : Addr}
    {kt_cell_tuple_0 : Tok}
    {f_cell_mask : Addr} {od_cell_mask an_cell_mask : Option Addr} {sl_cell_mask : Array (Option Value)} {oc_cell_mask kV_cell_mask dc_cell_mask pm_cell_mask cd_cell_mask ct_cell_mask : Value}
    {f_is_odd : Addr} {od_is_odd an_is_odd : Option Addr} {sl_is_odd : Array (Option Value)} {oc_is_odd kV_is_odd dc_is_odd pm_is_odd cd_is_odd ct_is_odd : Value}
    {f_Flip____init : Addr} {od_Flip____init an_Flip____init : Option Addr} {sl_Flip____init : Array (Option Value)} {oc_Flip____init kV_Flip____init dc_Flip____init pm_Flip____init cd_Flip____init ct_Flip____init : Value}
    {f_turn_flip : Addr} {od_turn_flip an_turn_flip : Option Addr} {sl_turn_flip : Array (Option Value)} {oc_turn_flip kV_turn_flip dc_turn_flip pm_turn_flip cd_turn_flip ct_turn_flip : Value}
    {f_add_flip : Addr} {od_add_flip an_add_flip : Option Addr} {sl_add_flip : Array (Option Value)} {oc_add_flip kV_add_flip dc_add_flip pm_add_flip cd_add_flip ct_add_flip : Value}
    {f_law_due : Addr} {od_law_due an_law_due : Option Addr} {sl_law_due : Array (Option Value)} {oc_law_due kV_law_due dc_law_due pm_law_due cd_law_due ct_law_due : Value}
    {f_swap_flip : Addr} {od_swap_flip an_swap_flip : Option Addr} {sl_swap_flip : Array (Option Value)} {oc_swap_flip kV_swap_flip dc_swap_flip pm_swap_flip cd_swap_flip ct_swap_flip : Value}
    {f_law_bits : Addr} {od_law_bits an_law_bits : Option Addr} {sl_law_bits : Array (Option Value)} {oc_law_bits kV_law_bits dc_law_bits pm_law_bits cd_law_bits ct_law_bits : Value}
    {f_require_size : Addr} {od_require_size an_require_size : Option Addr} {sl_require_size : Array (Option Value)} {oc_require_size kV_require_size dc_require_size pm_require_size cd_require_size ct_require_size : Value}
    {f_Board____init : Addr} {od_Board____init an_Board____init : Option Addr} {sl_Board____init : Array (Option Value)} {oc_Board____init dc_Board____init pm_Board____init cd_Board____init ct_Board____init : Value} {kd_Board____init : Addr}
    {dd_Board____init_0 : Option Addr} {dn_Board____init_0 : Nat} {ds_Board____init_0 : Array (Option Value)} {da_Board____init_0 : Addr}
    {f_law_up : Addr} {od_law_up an_law_up : Option Addr} {sl_law_up : Array (Option Value)} {oc_law_up kV_law_up dc_law_up pm_law_up cd_law_up ct_law_up : Value}
    {f_law_made : Addr} {od_law_made an_law_made : Option Addr} {sl_law_made : Array (Option Value)} {oc_law_made kV_law_made dc_law_made pm_law_made cd_law_made ct_law_made : Value}
    {f_Board__size : Addr} {od_Board__size an_Board__size : Option Addr} {sl_Board__size : Array (Option Value)} {oc_Board__size kV_Board__size dc_Board__size pm_Board__size cd_Board__size ct_Board__size : Value}
    {f_Board__up : Addr} {od_Board__up an_Board__up : Option Addr} {sl_Board__up : Array (Option Value)} {oc_Board__up kV_Board__up dc_Board__up pm_Board__up cd_Board__up ct_Board__up : Value}
    {f_law_is_so : Addr} {od_law_is_so an_law_is_so : Option Addr} {sl_law_is_so : Array (Option Value)} {oc_law_is_so kV_law_is_so dc_law_is_so pm_law_is_so cd_law_is_so ct_law_is_so : Value}
    {f_Flip__width : Addr} {od_Flip__width an_Flip__width : Option Addr} {sl_Flip__width : Array (Option Value)} {oc_Flip__width kV_Flip__width dc_Flip__width pm_Flip__width cd_Flip__width ct_Flip__width : Value}
    {f_require_fit : Addr} {od_require_fit an_require_fit : Option Addr} {sl_require_fit : Array (Option Value)} {oc_require_fit kV_require_fit dc_require_fit pm_require_fit cd_require_fit ct_require_fit : Value}
    {f_board_of : Addr} {od_board_of an_board_of : Option Addr} {sl_board_of : Array (Option Value)} {oc_board_of kV_board_of dc_board_of pm_board_of cd_board_of ct_board_of : Value}
    {f_mask_after : Addr} {od_mask_after an_mask_after : Option Addr} {sl_mask_after : Array (Option Value)} {oc_mask_after kV_mask_after dc_mask_after pm_mask_after cd_mask_after ct_mask_after : Value}
    {f_apply_flip : Addr} {od_apply_flip an_apply_flip : Option Addr} {sl_apply_flip : Array (Option Value)} {oc_apply_flip kV_apply_flip dc_apply_flip pm_apply_flip cd_apply_flip ct_apply_flip : Value}
    {f_law_effects_right : Addr} {od_law_effects_right an_law_effects_right : Option Addr} {sl_law_effects_right : Array (Option Value)} {oc_law_effects_right kV_law_effects_right dc_law_effects_right pm_law_effects_right cd_law_effects_right ct_law_effects_right : Value}
    {f_law : Addr} {od_law an_law : Option Addr} {sl_law : Array (Option Value)} {oc_law kV_law dc_law pm_law ct_law : Value} {lc_law lp_law : Addr}
    {c_Board : Addr}
    {c_Flip : Addr}
    {c_CellError : Addr}
    {c_LimitError : Addr}
    {c_NoSize : Addr}
    {c_NoCell : Addr}
    {c_NoCells : Addr}
    {c_NoFlip : Addr}
    {c_TooWide : Addr}
    {fI_NoSize N_NoSize : Addr} {nm_NoSize qn_NoSize : Str} {bs_NoSize sb_NoSize : List Value} {sn_NoSize : List Str} {ab_NoSize : Bool} {col_NoSize : Option Bool} {dd_NoSize od_NoSize an_NoSize : Option Addr} {m0_NoSize m1_NoSize m2_NoSize m3_NoSize m5_NoSize : Option Value} {oc_NoSize kV_NoSize dc_NoSize pm_NoSize cd_NoSize ct_NoSize : Value} {sl_NoSize : Array (Option Value)}
    {fI_NoCell N_NoCell : Addr} {nm_NoCell qn_NoCell : Str} {bs_NoCell sb_NoCell : List Value} {sn_NoCell : List Str} {ab_NoCell : Bool} {col_NoCell : Option Bool} {dd_NoCell od_NoCell an_NoCell : Option Addr} {m0_NoCell m1_NoCell m2_NoCell m3_NoCell m5_NoCell : Option Value} {oc_NoCell kV_NoCell dc_NoCell pm_NoCell cd_NoCell ct_NoCell : Value} {sl_NoCell : Array (Option Value)}
    {fI_NoCells N_NoCells : Addr} {nm_NoCells qn_NoCells : Str} {bs_NoCells sb_NoCells : List Value} {sn_NoCells : List Str} {ab_NoCells : Bool} {col_NoCells : Option Bool} {dd_NoCells od_NoCells an_NoCells : Option Addr} {m0_NoCells m1_NoCells m2_NoCells m3_NoCells m5_NoCells : Option Value} {oc_NoCells kV_NoCells dc_NoCells pm_NoCells cd_NoCells ct_NoCells : Value} {sl_NoCells : Array (Option Value)}
    {fI_NoFlip N_NoFlip : Addr} {nm_NoFlip qn_NoFlip : Str} {bs_NoFlip sb_NoFlip : List Value} {sn_NoFlip : List Str} {ab_NoFlip : Bool} {col_NoFlip : Option Bool} {dd_NoFlip od_NoFlip an_NoFlip : Option Addr} {m0_NoFlip m1_NoFlip m2_NoFlip m3_NoFlip m5_NoFlip : Option Value} {oc_NoFlip kV_NoFlip dc_NoFlip pm_NoFlip cd_NoFlip ct_NoFlip : Value} {sl_NoFlip : Array (Option Value)}
    {fI_TooWide N_TooWide : Addr} {nm_TooWide qn_TooWide : Str} {bs_TooWide sb_TooWide : List Value} {sn_TooWide : List Str} {ab_TooWide : Bool} {col_TooWide : Option Bool} {dd_TooWide od_TooWide an_TooWide : Option Addr} {m0_TooWide m1_TooWide m2_TooWide m3_TooWide m5_TooWide : Option Value} {oc_TooWide kV_TooWide dc_TooWide pm_TooWide cd_TooWide ct_TooWide : Value} {sl_TooWide : Array (Option Value)}
    {t_MOST_CELLS : Tok}
    (aC_Flip : PySem.W.nsIn K mainGlobals "Flip" = some (some (.ref c_Flip)))
    (aC_Board : PySem.W.nsIn K mainGlobals "Board" = some (some (.ref c_Board)))
    (a_law_pot : PySem.W.nsIn K mainGlobals "_law_pot" = some (some (.ref f_law_pot))) (l_law_pot : K.lookup f_law_pot = some ⟨oc_law_pot, od_law_pot, .func (PySem.W.fnOf "_law_pot" "_law_pot" (defArgs st__law_pot) (defBody st__law_pot) (defScope st__law_pot) .none kV_law_pot dc_law_pot pm_law_pot an_law_pot cd_law_pot ct_law_pot), sl_law_pot⟩) (c_law_pot : PySem.W.codeIn K cd_law_pot "_law_pot" = true) (k_law_pot : PySem.W.keepIn K (.ref f_law_pot) = true)
    (a_law_draw : PySem.W.nsIn K mainGlobals "_law_draw" = some (some (.ref f_law_draw))) (l_law_draw : K.lookup f_law_draw = some ⟨oc_law_draw, od_law_draw, .func (PySem.W.fnOf "_law_draw" "_law_draw" (defArgs st__law_draw) (defBody st__law_draw) (defScope st__law_draw) .none kV_law_draw dc_law_draw pm_law_draw an_law_draw cd_law_draw ct_law_draw), sl_law_draw⟩) (c_law_draw : PySem.W.codeIn K cd_law_draw "_law_draw" = true) (k_law_draw : PySem.W.keepIn K (.ref f_law_draw) = true)
    (a_law_any_thing : PySem.W.nsIn K mainGlobals "_law_any_thing" = some (some (.ref f_law_any_thing))) (l_law_any_thing : K.lookup f_law_any_thing = some ⟨oc_law_any_thing, od_law_any_thing, .func (PySem.W.fnOf "_law_any_thing" "_law_any_thing" (defArgs st__law_any_thing) (defBody st__law_any_thing) (defScope st__law_any_thing) .none kV_law_any_thing dc_law_any_thing pm_law_any_thing an_law_any_thing cd_law_any_thing ct_law_any_thing), sl_law_any_thing⟩) (c_law_any_thing : PySem.W.codeIn K cd_law_any_thing "_law_any_thing" = true) (k_law_any_thing : PySem.W.keepIn K (.ref f_law_any_thing) = true)
    (a_law_one : PySem.W.nsIn K mainGlobals "_law_one" = some (some (.ref f_law_one))) (l_law_one : K.lookup f_law_one = some ⟨oc_law_one, od_law_one, .func (PySem.W.fnOf "_law_one" "_law_one" (defArgs st__law_one) (defBody st__law_one) (defScope st__law_one) .none kV_law_one dc_law_one pm_law_one an_law_one cd_law_one ct_law_one), sl_law_one⟩) (c_law_one : PySem.W.codeIn K cd_law_one "_law_one" = true) (k_law_one : PySem.W.keepIn K (.ref f_law_one) = true)
    (a_law_is_int : PySem.W.nsIn K mainGlobals "_law_is_int" = some (some (.ref f_law_is_int))) (l_law_is_int : K.lookup f_law_is_int = some ⟨oc_law_is_int, od_law_is_int, .func (PySem.W.fnOf "_law_is_int" "_law_is_int" (defArgs st__law_is_int) (defBody st__law_is_int) (defScope st__law_is_int) .none kV_law_is_int dc_law_is_int pm_law_is_int an_law_is_int cd_law_is_int ct_law_is_int), sl_law_is_int⟩) (c_law_is_int : PySem.W.codeIn K cd_law_is_int "_law_is_int" = true) (k_law_is_int : PySem.W.keepIn K (.ref f_law_is_int) = true)
    (a_cells_in : PySem.W.nsIn K mainGlobals "cells_in" = some (some (.ref f_cells_in))) (l_cells_in : K.lookup f_cells_in = some ⟨oc_cells_in, od_cells_in, .func (PySem.W.fnOf "cells_in" "cells_in" (defArgs st_cells_in) (defBody st_cells_in) (defScope st_cells_in) .none kV_cells_in dc_cells_in pm_cells_in an_cells_in cd_cells_in ct_cells_in), sl_cells_in⟩) (c_cells_in : PySem.W.codeIn K cd_cells_in "cells_in" = true) (k_cells_in : PySem.W.keepIn K (.ref f_cells_in) = true)
    (a_Flip__toggled : PySem.W.findIn K (.ref c_Flip) "toggled" = some (some (.ref f_Flip__toggled))) (i_Flip__toggled : PySem.W.isFn K (.ref f_Flip__toggled) = true) (l_Flip__toggled : K.lookup f_Flip__toggled = some ⟨oc_Flip__toggled, od_Flip__toggled, .func (PySem.W.fnOf "toggled" "Flip.toggled" (defArgs st_Flip__toggled) (defBody st_Flip__toggled) (defScope st_Flip__toggled) .none kV_Flip__toggled dc_Flip__toggled pm_Flip__toggled an_Flip__toggled cd_Flip__toggled ct_Flip__toggled), sl_Flip__toggled⟩) (c_Flip__toggled : PySem.W.codeIn K cd_Flip__toggled "Flip.toggled" = true) (k_Flip__toggled : PySem.W.keepIn K (.ref f_Flip__toggled) = true)
    (a_Flip__tested : PySem.W.findIn K (.ref c_Flip) "tested" = some (some (.ref f_Flip__tested))) (i_Flip__tested : PySem.W.isFn K (.ref f_Flip__tested) = true) (l_Flip__tested : K.lookup f_Flip__tested = some ⟨oc_Flip__tested, od_Flip__tested, .func (PySem.W.fnOf "tested" "Flip.tested" (defArgs st_Flip__tested) (defBody st_Flip__tested) (defScope st_Flip__tested) .none kV_Flip__tested dc_Flip__tested pm_Flip__tested an_Flip__tested cd_Flip__tested ct_Flip__tested), sl_Flip__tested⟩) (c_Flip__tested : PySem.W.codeIn K cd_Flip__tested "Flip.tested" = true) (k_Flip__tested : PySem.W.keepIn K (.ref f_Flip__tested) = true)
    (a_law_met : PySem.W.nsIn K mainGlobals "_law_met" = some (some (.ref f_law_met))) (l_law_met : K.lookup f_law_met = some ⟨oc_law_met, od_law_met, .func (PySem.W.fnOf "_law_met" "_law_met" (defArgs st__law_met) (defBody st__law_met) (defScope st__law_met) .none kV_law_met dc_law_met pm_law_met an_law_met cd_law_met ct_law_met), sl_law_met⟩) (c_law_met : PySem.W.codeIn K cd_law_met "_law_met" = true) (k_law_met : PySem.W.keepIn K (.ref f_law_met) = true)
    (a_is_integer_in : PySem.W.nsIn K mainGlobals "is_integer_in" = some (some (.ref f_is_integer_in))) (l_is_integer_in : K.lookup f_is_integer_in = some ⟨oc_is_integer_in, od_is_integer_in, .func (PySem.W.fnOf "is_integer_in" "is_integer_in" (defArgs st_is_integer_in) (defBody st_is_integer_in) (defScope st_is_integer_in) .none kV_is_integer_in dc_is_integer_in pm_is_integer_in an_is_integer_in cd_is_integer_in ct_is_integer_in), sl_is_integer_in⟩) (c_is_integer_in : PySem.W.codeIn K cd_is_integer_in "is_integer_in" = true) (k_is_integer_in : PySem.W.keepIn K (.ref f_is_integer_in) = true)
    (a_require_cell : PySem.W.nsIn K mainGlobals "require_cell" = some (some (.ref f_require_cell))) (l_require_cell : K.lookup f_require_cell = some ⟨oc_require_cell, od_require_cell, .func (PySem.W.fnOf "require_cell" "require_cell" (defArgs st_require_cell) (defBody st_require_cell) (defScope st_require_cell) .none kV_require_cell dc_require_cell pm_require_cell an_require_cell cd_require_cell ct_require_cell), sl_require_cell⟩) (c_require_cell : PySem.W.codeIn K cd_require_cell "require_cell" = true) (k_require_cell : PySem.W.keepIn K (.ref f_require_cell) = true)
    (a_mask_of : PySem.W.nsIn K mainGlobals "mask_of" = some (some (.ref f_mask_of))) (l_mask_of : K.lookup f_mask_of = some ⟨oc_mask_of, od_mask_of, .func (PySem.W.fnOf "mask_of" "mask_of" (defArgs st_mask_of) (defBody st_mask_of) (defScope st_mask_of) .none kV_mask_of dc_mask_of pm_mask_of an_mask_of cd_mask_of ct_mask_of), sl_mask_of⟩) (c_mask_of : PySem.W.codeIn K cd_mask_of "mask_of" = true) (k_mask_of : PySem.W.keepIn K (.ref f_mask_of) = true)
    (a_is_cell : PySem.W.nsIn K mainGlobals "is_cell" = some (some (.ref f_is_cell))) (l_is_cell : K.lookup f_is_cell = some ⟨oc_is_cell, od_is_cell, .func (PySem.W.fnOf "is_cell" "is_cell" (defArgs st_is_cell) (defBody st_is_cell) (defScope st_is_cell) .none (.ref kd_is_cell) dc_is_cell pm_is_cell an_is_cell cd_is_cell ct_is_cell), sl_is_cell⟩) (c_is_cell : PySem.W.codeIn K cd_is_cell "is_cell" = true) (k_is_cell : PySem.W.keepIn K (.ref f_is_cell) = true)
    (kw_is_cell_0 : PySem.W.nsIn K kd_is_cell "size" = some (some (.int 40 kt_is_cell_0)))
    (a_cell_tuple : PySem.W.nsIn K mainGlobals "cell_tuple" = some (some (.ref f_cell_tuple))) (l_cell_tuple : K.lookup f_cell_tuple = some ⟨oc_cell_tuple, od_cell_tuple, .func (PySem.W.fnOf "cell_tuple" "cell_tuple" (defArgs st_cell_tuple) (defBody st_cell_tuple) (defScope st_cell_tuple) .none (.ref kd_cell_tuple) dc_cell_tuple pm_cell_tuple an_cell_tuple cd_cell_tuple ct_cell_tuple), sl_cell_tuple⟩) (c_cell_tuple : PySem.W.codeIn K cd_cell_tuple "cell_tuple" = true) (k_cell_tuple : PySem.W.keepIn K (.ref f_cell_tuple) = true)
    (kw_cell_tuple_0 : PySem.W.nsIn K kd_cell_tuple "size" = some (some (.int 40 kt_cell_tuple_0)))
    (a_cell_mask : PySem.W.nsIn K mainGlobals "cell_mask" = some (some (.ref f_cell_mask))) (l_cell_mask : K.lookup f_cell_mask = some ⟨oc_cell_mask, od_cell_mask, .func (PySem.W.fnOf "cell_mask" "cell_mask" (defArgs st_cell_mask) (defBody st_cell_mask) (defScope st_cell_mask) .none kV_cell_mask dc_cell_mask pm_cell_mask an_cell_mask cd_cell_mask ct_cell_mask), sl_cell_mask⟩) (c_cell_mask : PySem.W.codeIn K cd_cell_mask "cell_mask" = true) (k_cell_mask : PySem.W.keepIn K (.ref f_cell_mask) = true)
    (a_is_odd : PySem.W.nsIn K mainGlobals "is_odd" = some (some (.ref f_is_odd))) (l_is_odd : K.lookup f_is_odd = some ⟨oc_is_odd, od_is_odd, .func (PySem.W.fnOf "is_odd" "is_odd" (defArgs st_is_odd) (defBody st_is_odd) (defScope st_is_odd) .none kV_is_odd dc_is_odd pm_is_odd an_is_odd cd_is_odd ct_is_odd), sl_is_odd⟩) (c_is_odd : PySem.W.codeIn K cd_is_odd "is_odd" = true) (k_is_odd : PySem.W.keepIn K (.ref f_is_odd) = true)
    (a_Flip____init : PySem.W.findIn K (.ref c_Flip) "__init__" = some (some (.ref f_Flip____init))) (i_Flip____init : PySem.W.isFn K (.ref f_Flip____init) = true) (l_Flip____init : K.lookup f_Flip____init = some ⟨oc_Flip____init, od_Flip____init, .func (PySem.W.fnOf "__init__" "Flip.__init__" (defArgs st_Flip____init__) (defBody st_Flip____init__) (defScope st_Flip____init__) .none kV_Flip____init dc_Flip____init pm_Flip____init an_Flip____init cd_Flip____init ct_Flip____init), sl_Flip____init⟩) (c_Flip____init : PySem.W.codeIn K cd_Flip____init "Flip.__init__" = true) (k_Flip____init : PySem.W.keepIn K (.ref f_Flip____init) = true)
    (a_turn_flip : PySem.W.nsIn K mainGlobals "turn_flip" = some (some (.ref f_turn_flip))) (l_turn_flip : K.lookup f_turn_flip = some ⟨oc_turn_flip, od_turn_flip, .func (PySem.W.fnOf "turn_flip" "turn_flip" (defArgs st_turn_flip) (defBody st_turn_flip) (defScope st_turn_flip) .none kV_turn_flip dc_turn_flip pm_turn_flip an_turn_flip cd_turn_flip ct_turn_flip), sl_turn_flip⟩) (c_turn_flip : PySem.W.codeIn K cd_turn_flip "turn_flip" = true) (k_turn_flip : PySem.W.keepIn K (.ref f_turn_flip) = true)
    (a_add_flip : PySem.W.nsIn K mainGlobals "add_flip" = some (some (.ref f_add_flip))) (l_add_flip : K.lookup f_add_flip = some ⟨oc_add_flip, od_add_flip, .func (PySem.W.fnOf "add_flip" "add_flip" (defArgs st_add_flip) (defBody st_add_flip) (defScope st_add_flip) .none kV_add_flip dc_add_flip pm_add_flip an_add_flip cd_add_flip ct_add_flip), sl_add_flip⟩) (c_add_flip : PySem.W.codeIn K cd_add_flip "add_flip" = true) (k_add_flip : PySem.W.keepIn K (.ref f_add_flip) = true)
    (a_law_due : PySem.W.nsIn K mainGlobals "_law_due" = some (some (.ref f_law_due))) (l_law_due : K.lookup f_law_due = some ⟨oc_law_due, od_law_due, .func (PySem.W.fnOf "_law_due" "_law_due" (defArgs st__law_due) (defBody st__law_due) (defScope st__law_due) .none kV_law_due dc_law_due pm_law_due an_law_due cd_law_due ct_law_due), sl_law_due⟩) (c_law_due : PySem.W.codeIn K cd_law_due "_law_due" = true) (k_law_due : PySem.W.keepIn K (.ref f_law_due) = true)
    (a_swap_flip : PySem.W.nsIn K mainGlobals "swap_flip" = some (some (.ref f_swap_flip))) (l_swap_flip : K.lookup f_swap_flip = some ⟨oc_swap_flip, od_swap_flip, .func (PySem.W.fnOf "swap_flip" "swap_flip" (defArgs st_swap_flip) (defBody st_swap_flip) (defScope st_swap_flip) .none kV_swap_flip dc_swap_flip pm_swap_flip an_swap_flip cd_swap_flip ct_swap_flip), sl_swap_flip⟩) (c_swap_flip : PySem.W.codeIn K cd_swap_flip "swap_flip" = true) (k_swap_flip : PySem.W.keepIn K (.ref f_swap_flip) = true)
    (a_law_bits : PySem.W.nsIn K mainGlobals "_law_bits" = some (some (.ref f_law_bits))) (l_law_bits : K.lookup f_law_bits = some ⟨oc_law_bits, od_law_bits, .func (PySem.W.fnOf "_law_bits" "_law_bits" (defArgs st__law_bits) (defBody st__law_bits) (defScope st__law_bits) .none kV_law_bits dc_law_bits pm_law_bits an_law_bits cd_law_bits ct_law_bits), sl_law_bits⟩) (c_law_bits : PySem.W.codeIn K cd_law_bits "_law_bits" = true) (k_law_bits : PySem.W.keepIn K (.ref f_law_bits) = true)
    (a_require_size : PySem.W.nsIn K mainGlobals "require_size" = some (some (.ref f_require_size))) (l_require_size : K.lookup f_require_size = some ⟨oc_require_size, od_require_size, .func (PySem.W.fnOf "require_size" "require_size" (defArgs st_require_size) (defBody st_require_size) (defScope st_require_size) .none kV_require_size dc_require_size pm_require_size an_require_size cd_require_size ct_require_size), sl_require_size⟩) (c_require_size : PySem.W.codeIn K cd_require_size "require_size" = true) (k_require_size : PySem.W.keepIn K (.ref f_require_size) = true)
    (a_Board____init : PySem.W.findIn K (.ref c_Board) "__init__" = some (some (.ref f_Board____init))) (i_Board____init : PySem.W.isFn K (.ref f_Board____init) = true) (l_Board____init : K.lookup f_Board____init = some ⟨oc_Board____init, od_Board____init, .func (PySem.W.fnOf "__init__" "Board.__init__" (defArgs st_Board____init__) (defBody st_Board____init__) (defScope st_Board____init__) .none (.ref kd_Board____init) dc_Board____init pm_Board____init an_Board____init cd_Board____init ct_Board____init), sl_Board____init⟩) (c_Board____init : PySem.W.codeIn K cd_Board____init "Board.__init__" = true) (k_Board____init : PySem.W.keepIn K (.ref f_Board____init) = true)
    (kw_Board____init_0 : PySem.W.nsIn K kd_Board____init "up" = some (some (.ref da_Board____init_0)))
    (kt_Board____init_0 : K.lookup da_Board____init_0 = some ⟨.type "tuple", dd_Board____init_0, .seq #[] dn_Board____init_0, ds_Board____init_0⟩)
    (a_law_up : PySem.W.nsIn K mainGlobals "_law_up" = some (some (.ref f_law_up))) (l_law_up : K.lookup f_law_up = some ⟨oc_law_up, od_law_up, .func (PySem.W.fnOf "_law_up" "_law_up" (defArgs st__law_up) (defBody st__law_up) (defScope st__law_up) .none kV_law_up dc_law_up pm_law_up an_law_up cd_law_up ct_law_up), sl_law_up⟩) (c_law_up : PySem.W.codeIn K cd_law_up "_law_up" = true) (k_law_up : PySem.W.keepIn K (.ref f_law_up) = true)
    (a_law_made : PySem.W.nsIn K mainGlobals "_law_made" = some (some (.ref f_law_made))) (l_law_made : K.lookup f_law_made = some ⟨oc_law_made, od_law_made, .func (PySem.W.fnOf "_law_made" "_law_made" (defArgs st__law_made) (defBody st__law_made) (defScope st__law_made) .none kV_law_made dc_law_made pm_law_made an_law_made cd_law_made ct_law_made), sl_law_made⟩) (c_law_made : PySem.W.codeIn K cd_law_made "_law_made" = true) (k_law_made : PySem.W.keepIn K (.ref f_law_made) = true)
    (a_Board__size : PySem.W.findIn K (.ref c_Board) "size" = some (some (.ref f_Board__size))) (i_Board__size : PySem.W.isFn K (.ref f_Board__size) = true) (l_Board__size : K.lookup f_Board__size = some ⟨oc_Board__size, od_Board__size, .func (PySem.W.fnOf "size" "Board.size" (defArgs st_Board__size) (defBody st_Board__size) (defScope st_Board__size) .none kV_Board__size dc_Board__size pm_Board__size an_Board__size cd_Board__size ct_Board__size), sl_Board__size⟩) (c_Board__size : PySem.W.codeIn K cd_Board__size "Board.size" = true) (k_Board__size : PySem.W.keepIn K (.ref f_Board__size) = true)
    (a_Board__up : PySem.W.findIn K (.ref c_Board) "up" = some (some (.ref f_Board__up))) (i_Board__up : PySem.W.isFn K (.ref f_Board__up) = true) (l_Board__up : K.lookup f_Board__up = some ⟨oc_Board__up, od_Board__up, .func (PySem.W.fnOf "up" "Board.up" (defArgs st_Board__up) (defBody st_Board__up) (defScope st_Board__up) .none kV_Board__up dc_Board__up pm_Board__up an_Board__up cd_Board__up ct_Board__up), sl_Board__up⟩) (c_Board__up : PySem.W.codeIn K cd_Board__up "Board.up" = true) (k_Board__up : PySem.W.keepIn K (.ref f_Board__up) = true)
    (a_law_is_so : PySem.W.nsIn K mainGlobals "_law_is_so" = some (some (.ref f_law_is_so))) (l_law_is_so : K.lookup f_law_is_so = some ⟨oc_law_is_so, od_law_is_so, .func (PySem.W.fnOf "_law_is_so" "_law_is_so" (defArgs st__law_is_so) (defBody st__law_is_so) (defScope st__law_is_so) .none kV_law_is_so dc_law_is_so pm_law_is_so an_law_is_so cd_law_is_so ct_law_is_so), sl_law_is_so⟩) (c_law_is_so : PySem.W.codeIn K cd_law_is_so "_law_is_so" = true) (k_law_is_so : PySem.W.keepIn K (.ref f_law_is_so) = true)
    (a_Flip__width : PySem.W.findIn K (.ref c_Flip) "width" = some (some (.ref f_Flip__width))) (i_Flip__width : PySem.W.isFn K (.ref f_Flip__width) = true) (l_Flip__width : K.lookup f_Flip__width = some ⟨oc_Flip__width, od_Flip__width, .func (PySem.W.fnOf "width" "Flip.width" (defArgs st_Flip__width) (defBody st_Flip__width) (defScope st_Flip__width) .none kV_Flip__width dc_Flip__width pm_Flip__width an_Flip__width cd_Flip__width ct_Flip__width), sl_Flip__width⟩) (c_Flip__width : PySem.W.codeIn K cd_Flip__width "Flip.width" = true) (k_Flip__width : PySem.W.keepIn K (.ref f_Flip__width) = true)
    (a_require_fit : PySem.W.nsIn K mainGlobals "require_fit" = some (some (.ref f_require_fit))) (l_require_fit : K.lookup f_require_fit = some ⟨oc_require_fit, od_require_fit, .func (PySem.W.fnOf "require_fit" "require_fit" (defArgs st_require_fit) (defBody st_require_fit) (defScope st_require_fit) .none kV_require_fit dc_require_fit pm_require_fit an_require_fit cd_require_fit ct_require_fit), sl_require_fit⟩) (c_require_fit : PySem.W.codeIn K cd_require_fit "require_fit" = true) (k_require_fit : PySem.W.keepIn K (.ref f_require_fit) = true)
    (a_board_of : PySem.W.nsIn K mainGlobals "board_of" = some (some (.ref f_board_of))) (l_board_of : K.lookup f_board_of = some ⟨oc_board_of, od_board_of, .func (PySem.W.fnOf "board_of" "board_of" (defArgs st_board_of) (defBody st_board_of) (defScope st_board_of) .none kV_board_of dc_board_of pm_board_of an_board_of cd_board_of ct_board_of), sl_board_of⟩) (c_board_of : PySem.W.codeIn K cd_board_of "board_of" = true) (k_board_of : PySem.W.keepIn K (.ref f_board_of) = true)
    (a_mask_after : PySem.W.nsIn K mainGlobals "mask_after" = some (some (.ref f_mask_after))) (l_mask_after : K.lookup f_mask_after = some ⟨oc_mask_after, od_mask_after, .func (PySem.W.fnOf "mask_after" "mask_after" (defArgs st_mask_after) (defBody st_mask_after) (defScope st_mask_after) .none kV_mask_after dc_mask_after pm_mask_after an_mask_after cd_mask_after ct_mask_after), sl_mask_after⟩) (c_mask_after : PySem.W.codeIn K cd_mask_after "mask_after" = true) (k_mask_after : PySem.W.keepIn K (.ref f_mask_after) = true)
    (a_apply_flip : PySem.W.nsIn K mainGlobals "apply_flip" = some (some (.ref f_apply_flip))) (l_apply_flip : K.lookup f_apply_flip = some ⟨oc_apply_flip, od_apply_flip, .func (PySem.W.fnOf "apply_flip" "apply_flip" (defArgs st_apply_flip) (defBody st_apply_flip) (defScope st_apply_flip) .none kV_apply_flip dc_apply_flip pm_apply_flip an_apply_flip cd_apply_flip ct_apply_flip), sl_apply_flip⟩) (c_apply_flip : PySem.W.codeIn K cd_apply_flip "apply_flip" = true) (k_apply_flip : PySem.W.keepIn K (.ref f_apply_flip) = true)
    (a_law_effects_right : PySem.W.nsIn K mainGlobals "_law_effects_right" = some (some (.ref f_law_effects_right))) (l_law_effects_right : K.lookup f_law_effects_right = some ⟨oc_law_effects_right, od_law_effects_right, .func (PySem.W.fnOf "_law_effects_right" "_law_effects_right" (defArgs st__law_effects_right) (defBody st__law_effects_right) (defScope st__law_effects_right) .none kV_law_effects_right dc_law_effects_right pm_law_effects_right an_law_effects_right cd_law_effects_right ct_law_effects_right), sl_law_effects_right⟩) (c_law_effects_right : PySem.W.codeIn K cd_law_effects_right "_law_effects_right" = true) (k_law_effects_right : PySem.W.keepIn K (.ref f_law_effects_right) = true)
    (a_law : PySem.W.nsIn K mainGlobals "law" = some (some (.ref f_law))) (tb_law : PySem.W.tabIn K "law" = some (lc_law, lp_law)) (nk_law : K.lookup lp_law = none) (rc_law : ((recsOf qq).find? (fun e => e.name == ("law" : Str))).isSome = true) (l_law : K.lookup f_law = some ⟨oc_law, od_law, .func (PySem.W.fnOf "law" "law" (defArgs st_law) (defBody st_law) (defScope st_law) .none kV_law dc_law pm_law an_law (.ref lc_law) ct_law), sl_law⟩) (c_law : PySem.W.codeIn K (.ref lc_law) "law" = true) (k_law : PySem.W.keepIn K (.ref f_law) = true)
    (pg_Board : PySem.W.plainGet K c_Board Str.empty = true)
    (hd_Board : PySem.W.hasDictIn K c_Board = true)
    (po_Board : PySem.W.plainOver K c_Board = true)
    (sa_Board : PySem.W.findIn K (.ref c_Board) "__setattr__" = some (some (.builtin "object.__setattr__")))
    (mk_Board : PySem.W.makesIn K c_Board = true)
    (ca_Board : PySem.W.findIn K (.ref c_Board) "__class__" = some (some (.builtin "object.__class__")))
    (ob_Board : PySem.W.mroIn K c_Board (.type "object") = some true)
    (kC_Board : PySem.W.keepIn K (.ref c_Board) = true)
    (no_Board_own_size : PySem.W.findIn K (.ref c_Board) "own_size" = some none)
    (no_Board_up_mask : PySem.W.findIn K (.ref c_Board) "up_mask" = some none)
    (pg_Flip : PySem.W.plainGet K c_Flip Str.empty = true)
    (hd_Flip : PySem.W.hasDictIn K c_Flip = true)
    (po_Flip : PySem.W.plainOver K c_Flip = true)
    (sa_Flip : PySem.W.findIn K (.ref c_Flip) "__setattr__" = some (some (.builtin "object.__setattr__")))
    (mk_Flip : PySem.W.makesIn K c_Flip = true)
    (ca_Flip : PySem.W.findIn K (.ref c_Flip) "__class__" = some (some (.builtin "object.__class__")))
    (ob_Flip : PySem.W.mroIn K c_Flip (.type "object") = some true)
    (kC_Flip : PySem.W.keepIn K (.ref c_Flip) = true)
    (no_Flip_test_mask : PySem.W.findIn K (.ref c_Flip) "test_mask" = some none)
    (no_Flip_toggle_mask : PySem.W.findIn K (.ref c_Flip) "toggle_mask" = some none)
    (aC_CellError : PySem.W.nsIn K mainGlobals "CellError" = some (some (.ref c_CellError)))
    (aC_LimitError : PySem.W.nsIn K mainGlobals "LimitError" = some (some (.ref c_LimitError)))
    (aC_NoSize : PySem.W.nsIn K mainGlobals "NoSize" = some (some (.ref c_NoSize)))
    (aC_NoCell : PySem.W.nsIn K mainGlobals "NoCell" = some (some (.ref c_NoCell)))
    (aC_NoCells : PySem.W.nsIn K mainGlobals "NoCells" = some (some (.ref c_NoCells)))
    (aC_NoFlip : PySem.W.nsIn K mainGlobals "NoFlip" = some (some (.ref c_NoFlip)))
    (aC_TooWide : PySem.W.nsIn K mainGlobals "TooWide" = some (some (.ref c_TooWide)))
    (ga_CellError : PySem.W.findIn K (.ref c_CellError) "__getattribute__" = some (some (.builtin "BaseException.__getattribute__")))
    (gg_CellError : PySem.W.findIn K (.ref c_CellError) "__getattr__" = some none)
    (eC_CellError : PySem.W.subIn K (.ref c_CellError) (.type "BaseException") = some true)
    (hd_CellError : PySem.W.hasDictIn K c_CellError = true)
    (ic_CellError : PySem.W.isClsIn K c_CellError = true)
    (tC_CellError : PySem.W.typeIn K (.ref c_CellError) = some (.type "type"))
    (ca_CellError : PySem.W.findIn K (.ref c_CellError) "__class__" = some (some (.builtin "object.__class__")))
    (ob_CellError : PySem.W.mroIn K c_CellError (.type "object") = some true)
    (me_CellError : PySem.W.subIn K (.ref c_CellError) (.ref c_CellError) = some true)
    (ga_LimitError : PySem.W.findIn K (.ref c_LimitError) "__getattribute__" = some (some (.builtin "BaseException.__getattribute__")))
    (gg_LimitError : PySem.W.findIn K (.ref c_LimitError) "__getattr__" = some none)
    (eC_LimitError : PySem.W.subIn K (.ref c_LimitError) (.type "BaseException") = some true)
    (hd_LimitError : PySem.W.hasDictIn K c_LimitError = true)
    (ic_LimitError : PySem.W.isClsIn K c_LimitError = true)
    (tC_LimitError : PySem.W.typeIn K (.ref c_LimitError) = some (.type "type"))
    (ca_LimitError : PySem.W.findIn K (.ref c_LimitError) "__class__" = some (some (.builtin "object.__class__")))
    (ob_LimitError : PySem.W.mroIn K c_LimitError (.type "object") = some true)
    (me_LimitError : PySem.W.subIn K (.ref c_LimitError) (.ref c_LimitError) = some true)
    (ga_NoSize : PySem.W.findIn K (.ref c_NoSize) "__getattribute__" = some (some (.builtin "BaseException.__getattribute__")))
    (gg_NoSize : PySem.W.findIn K (.ref c_NoSize) "__getattr__" = some none)
    (eC_NoSize : PySem.W.subIn K (.ref c_NoSize) (.type "BaseException") = some true)
    (hd_NoSize : PySem.W.hasDictIn K c_NoSize = true)
    (ic_NoSize : PySem.W.isClsIn K c_NoSize = true)
    (tC_NoSize : PySem.W.typeIn K (.ref c_NoSize) = some (.type "type"))
    (ca_NoSize : PySem.W.findIn K (.ref c_NoSize) "__class__" = some (some (.builtin "object.__class__")))
    (ob_NoSize : PySem.W.mroIn K c_NoSize (.type "object") = some true)
    (me_NoSize : PySem.W.subIn K (.ref c_NoSize) (.ref c_NoSize) = some true)
    (ga_NoCell : PySem.W.findIn K (.ref c_NoCell) "__getattribute__" = some (some (.builtin "BaseException.__getattribute__")))
    (gg_NoCell : PySem.W.findIn K (.ref c_NoCell) "__getattr__" = some none)
    (eC_NoCell : PySem.W.subIn K (.ref c_NoCell) (.type "BaseException") = some true)
    (hd_NoCell : PySem.W.hasDictIn K c_NoCell = true)
    (ic_NoCell : PySem.W.isClsIn K c_NoCell = true)
    (tC_NoCell : PySem.W.typeIn K (.ref c_NoCell) = some (.type "type"))
    (ca_NoCell : PySem.W.findIn K (.ref c_NoCell) "__class__" = some (some (.builtin "object.__class__")))
    (ob_NoCell : PySem.W.mroIn K c_NoCell (.type "object") = some true)
    (me_NoCell : PySem.W.subIn K (.ref c_NoCell) (.ref c_NoCell) = some true)
    (ga_NoCells : PySem.W.findIn K (.ref c_NoCells) "__getattribute__" = some (some (.builtin "BaseException.__getattribute__")))
    (gg_NoCells : PySem.W.findIn K (.ref c_NoCells) "__getattr__" = some none)
    (eC_NoCells : PySem.W.subIn K (.ref c_NoCells) (.type "BaseException") = some true)
    (hd_NoCells : PySem.W.hasDictIn K c_NoCells = true)
    (ic_NoCells : PySem.W.isClsIn K c_NoCells = true)
    (tC_NoCells : PySem.W.typeIn K (.ref c_NoCells) = some (.type "type"))
    (ca_NoCells : PySem.W.findIn K (.ref c_NoCells) "__class__" = some (some (.builtin "object.__class__")))
    (ob_NoCells : PySem.W.mroIn K c_NoCells (.type "object") = some true)
    (me_NoCells : PySem.W.subIn K (.ref c_NoCells) (.ref c_NoCells) = some true)
    (ga_NoFlip : PySem.W.findIn K (.ref c_NoFlip) "__getattribute__" = some (some (.builtin "BaseException.__getattribute__")))
    (gg_NoFlip : PySem.W.findIn K (.ref c_NoFlip) "__getattr__" = some none)
    (eC_NoFlip : PySem.W.subIn K (.ref c_NoFlip) (.type "BaseException") = some true)
    (hd_NoFlip : PySem.W.hasDictIn K c_NoFlip = true)
    (ic_NoFlip : PySem.W.isClsIn K c_NoFlip = true)
    (tC_NoFlip : PySem.W.typeIn K (.ref c_NoFlip) = some (.type "type"))
    (ca_NoFlip : PySem.W.findIn K (.ref c_NoFlip) "__class__" = some (some (.builtin "object.__class__")))
    (ob_NoFlip : PySem.W.mroIn K c_NoFlip (.type "object") = some true)
    (me_NoFlip : PySem.W.subIn K (.ref c_NoFlip) (.ref c_NoFlip) = some true)
    (ga_TooWide : PySem.W.findIn K (.ref c_TooWide) "__getattribute__" = some (some (.builtin "BaseException.__getattribute__")))
    (gg_TooWide : PySem.W.findIn K (.ref c_TooWide) "__getattr__" = some none)
    (eC_TooWide : PySem.W.subIn K (.ref c_TooWide) (.type "BaseException") = some true)
    (hd_TooWide : PySem.W.hasDictIn K c_TooWide = true)
    (ic_TooWide : PySem.W.isClsIn K c_TooWide = true)
    (tC_TooWide : PySem.W.typeIn K (.ref c_TooWide) = some (.type "type"))
    (ca_TooWide : PySem.W.findIn K (.ref c_TooWide) "__class__" = some (some (.builtin "object.__class__")))
    (ob_TooWide : PySem.W.mroIn K c_TooWide (.type "object") = some true)
    (me_TooWide : PySem.W.subIn K (.ref c_TooWide) (.ref c_TooWide) = some true)
    (rD_CellError : PySem.W.readsIn K c_CellError (.type "type") = true)
    (gD_CellError : PySem.W.specialIn K (.ref c_CellError) "__getattribute__" = some (some (.builtin "type.__getattribute__")))
    (iD_CellError : PySem.W.findCls K (.ref c_CellError) (.type "type") "__init__" = some (.val (.builtin "ValueError.__init__")))
    (rD_LimitError : PySem.W.readsIn K c_LimitError (.type "type") = true)
    (gD_LimitError : PySem.W.specialIn K (.ref c_LimitError) "__getattribute__" = some (some (.builtin "type.__getattribute__")))
    (iD_LimitError : PySem.W.findCls K (.ref c_LimitError) (.type "type") "__init__" = some (.val (.builtin "ArithmeticError.__init__")))
    (xL_NoSize : K.lookup c_NoSize = some (excClassObj nm_NoSize qn_NoSize c_NoSize N_NoSize bs_NoSize (.ref c_CellError :: [.type "ValueError", .type "Exception", .type "BaseException", .type "object"]) true sn_NoSize sb_NoSize ab_NoSize col_NoSize dd_NoSize m0_NoSize m1_NoSize m2_NoSize m3_NoSize m5_NoSize "ValueError.__new__"))
    (sa_NoSize : PySem.W.findIn K (.ref c_NoSize) "__setattr__" = some (some (.builtin "object.__setattr__")))
    (no_NoSize_0 : PySem.W.findIn K (.ref c_NoSize) "value" = some none)
    (iI_NoSize : PySem.W.findIn K (.ref c_NoSize) "__init__" = some (some (.ref fI_NoSize)))
    (tI_NoSize : PySem.W.typeIn K (.ref fI_NoSize) = some (.type "function"))
    (lI_NoSize : K.lookup fI_NoSize = some ⟨oc_NoSize, od_NoSize, .func (PySem.W.fnOf "__init__" "NoSize.__init__" (defArgs st_NoSize) (defBody st_NoSize) (defScope st_NoSize) .none kV_NoSize dc_NoSize pm_NoSize an_NoSize cd_NoSize ct_NoSize), sl_NoSize⟩)
    (cI_NoSize : PySem.W.codeIn K cd_NoSize "NoSize.__init__" = true)
    (kC_NoSize : PySem.W.keepIn K (.ref c_NoSize) = true)
    (xL_NoCell : K.lookup c_NoCell = some (excClassObj nm_NoCell qn_NoCell c_NoCell N_NoCell bs_NoCell (.ref c_CellError :: [.type "ValueError", .type "Exception", .type "BaseException", .type "object"]) true sn_NoCell sb_NoCell ab_NoCell col_NoCell dd_NoCell m0_NoCell m1_NoCell m2_NoCell m3_NoCell m5_NoCell "ValueError.__new__"))
    (sa_NoCell : PySem.W.findIn K (.ref c_NoCell) "__setattr__" = some (some (.builtin "object.__setattr__")))
    (no_NoCell_0 : PySem.W.findIn K (.ref c_NoCell) "cell" = some none)
    (iI_NoCell : PySem.W.findIn K (.ref c_NoCell) "__init__" = some (some (.ref fI_NoCell)))
    (tI_NoCell : PySem.W.typeIn K (.ref fI_NoCell) = some (.type "function"))
    (lI_NoCell : K.lookup fI_NoCell = some ⟨oc_NoCell, od_NoCell, .func (PySem.W.fnOf "__init__" "NoCell.__init__" (defArgs st_NoCell) (defBody st_NoCell) (defScope st_NoCell) .none kV_NoCell dc_NoCell pm_NoCell an_NoCell cd_NoCell ct_NoCell), sl_NoCell⟩)
    (cI_NoCell : PySem.W.codeIn K cd_NoCell "NoCell.__init__" = true)
    (kC_NoCell : PySem.W.keepIn K (.ref c_NoCell) = true)
    (xL_NoCells : K.lookup c_NoCells = some (excClassObj nm_NoCells qn_NoCells c_NoCells N_NoCells bs_NoCells (.ref c_CellError :: [.type "ValueError", .type "Exception", .type "BaseException", .type "object"]) true sn_NoCells sb_NoCells ab_NoCells col_NoCells dd_NoCells m0_NoCells m1_NoCells m2_NoCells m3_NoCells m5_NoCells "ValueError.__new__"))
    (sa_NoCells : PySem.W.findIn K (.ref c_NoCells) "__setattr__" = some (some (.builtin "object.__setattr__")))
    (no_NoCells_0 : PySem.W.findIn K (.ref c_NoCells) "cells" = some none)
    (iI_NoCells : PySem.W.findIn K (.ref c_NoCells) "__init__" = some (some (.ref fI_NoCells)))
    (tI_NoCells : PySem.W.typeIn K (.ref fI_NoCells) = some (.type "function"))
    (lI_NoCells : K.lookup fI_NoCells = some ⟨oc_NoCells, od_NoCells, .func (PySem.W.fnOf "__init__" "NoCells.__init__" (defArgs st_NoCells) (defBody st_NoCells) (defScope st_NoCells) .none kV_NoCells dc_NoCells pm_NoCells an_NoCells cd_NoCells ct_NoCells), sl_NoCells⟩)
    (cI_NoCells : PySem.W.codeIn K cd_NoCells "NoCells.__init__" = true)
    (kC_NoCells : PySem.W.keepIn K (.ref c_NoCells) = true)
    (xL_NoFlip : K.lookup c_NoFlip = some (excClassObj nm_NoFlip qn_NoFlip c_NoFlip N_NoFlip bs_NoFlip (.ref c_CellError :: [.type "ValueError", .type "Exception", .type "BaseException", .type "object"]) true sn_NoFlip sb_NoFlip ab_NoFlip col_NoFlip dd_NoFlip m0_NoFlip m1_NoFlip m2_NoFlip m3_NoFlip m5_NoFlip "ValueError.__new__"))
    (sa_NoFlip : PySem.W.findIn K (.ref c_NoFlip) "__setattr__" = some (some (.builtin "object.__setattr__")))
    (no_NoFlip_0 : PySem.W.findIn K (.ref c_NoFlip) "why" = some none)
    (iI_NoFlip : PySem.W.findIn K (.ref c_NoFlip) "__init__" = some (some (.ref fI_NoFlip)))
    (tI_NoFlip : PySem.W.typeIn K (.ref fI_NoFlip) = some (.type "function"))
    (lI_NoFlip : K.lookup fI_NoFlip = some ⟨oc_NoFlip, od_NoFlip, .func (PySem.W.fnOf "__init__" "NoFlip.__init__" (defArgs st_NoFlip) (defBody st_NoFlip) (defScope st_NoFlip) .none kV_NoFlip dc_NoFlip pm_NoFlip an_NoFlip cd_NoFlip ct_NoFlip), sl_NoFlip⟩)
    (cI_NoFlip : PySem.W.codeIn K cd_NoFlip "NoFlip.__init__" = true)
    (kC_NoFlip : PySem.W.keepIn K (.ref c_NoFlip) = true)
    (xL_TooWide : K.lookup c_TooWide = some (excClassObj nm_TooWide qn_TooWide c_TooWide N_TooWide bs_TooWide (.ref c_LimitError :: [.type "ArithmeticError", .type "Exception", .type "BaseException", .type "object"]) true sn_TooWide sb_TooWide ab_TooWide col_TooWide dd_TooWide m0_TooWide m1_TooWide m2_TooWide m3_TooWide m5_TooWide "ArithmeticError.__new__"))
    (sa_TooWide : PySem.W.findIn K (.ref c_TooWide) "__setattr__" = some (some (.builtin "object.__setattr__")))
    (no_TooWide_0 : PySem.W.findIn K (.ref c_TooWide) "needed" = some none)
    (iI_TooWide : PySem.W.findIn K (.ref c_TooWide) "__init__" = some (some (.ref fI_TooWide)))
    (tI_TooWide : PySem.W.typeIn K (.ref fI_TooWide) = some (.type "function"))
    (lI_TooWide : K.lookup fI_TooWide = some ⟨oc_TooWide, od_TooWide, .func (PySem.W.fnOf "__init__" "TooWide.__init__" (defArgs st_TooWide) (defBody st_TooWide) (defScope st_TooWide) .none kV_TooWide dc_TooWide pm_TooWide an_TooWide cd_TooWide ct_TooWide), sl_TooWide⟩)
    (cI_TooWide : PySem.W.codeIn K cd_TooWide "TooWide.__init__" = true)
    (kC_TooWide : PySem.W.keepIn K (.ref c_TooWide) = true)
    (cq1 : PySem.W.specialIn K (.builtin "object.__class__") "__get__" = some (some (.builtin "getset_descriptor.__get__")))
    (cq2 : PySem.W.takesIn K (.builtin "object.__class__") = some true)
    (s_NoSize_CellError : PySem.W.subIn K (.ref c_NoSize) (.ref c_CellError) = some true)
    (s_NoSize_NoCell : PySem.W.subIn K (.ref c_NoSize) (.ref c_NoCell) = some false)
    (s_NoSize_NoCells : PySem.W.subIn K (.ref c_NoSize) (.ref c_NoCells) = some false)
    (s_NoSize_NoFlip : PySem.W.subIn K (.ref c_NoSize) (.ref c_NoFlip) = some false)
    (s_NoCell_CellError : PySem.W.subIn K (.ref c_NoCell) (.ref c_CellError) = some true)
    (s_NoCell_NoCell : PySem.W.subIn K (.ref c_NoCell) (.ref c_NoCell) = some true)
    (s_NoCell_NoCells : PySem.W.subIn K (.ref c_NoCell) (.ref c_NoCells) = some false)
    (s_NoCell_NoFlip : PySem.W.subIn K (.ref c_NoCell) (.ref c_NoFlip) = some false)
    (s_NoCells_CellError : PySem.W.subIn K (.ref c_NoCells) (.ref c_CellError) = some true)
    (s_NoCells_NoCell : PySem.W.subIn K (.ref c_NoCells) (.ref c_NoCell) = some false)
    (s_NoCells_NoCells : PySem.W.subIn K (.ref c_NoCells) (.ref c_NoCells) = some true)
    (s_NoCells_NoFlip : PySem.W.subIn K (.ref c_NoCells) (.ref c_NoFlip) = some false)
    (s_NoFlip_CellError : PySem.W.subIn K (.ref c_NoFlip) (.ref c_CellError) = some true)
    (s_NoFlip_NoCell : PySem.W.subIn K (.ref c_NoFlip) (.ref c_NoCell) = some false)
    (s_NoFlip_NoCells : PySem.W.subIn K (.ref c_NoFlip) (.ref c_NoCells) = some false)
    (s_NoFlip_NoFlip : PySem.W.subIn K (.ref c_NoFlip) (.ref c_NoFlip) = some true)
    (s_TooWide_CellError : PySem.W.subIn K (.ref c_TooWide) (.ref c_CellError) = some false)
    (s_TooWide_NoCell : PySem.W.subIn K (.ref c_TooWide) (.ref c_NoCell) = some false)
    (s_TooWide_NoCells : PySem.W.subIn K (.ref c_TooWide) (.ref c_NoCells) = some false)
    (s_TooWide_NoFlip : PySem.W.subIn K (.ref c_TooWide) (.ref c_NoFlip) = some false)
    (z_abs : PySem.W.nsIn K mainGlobals "abs" = some none)
    (z_all : PySem.W.nsIn K mainGlobals "all" = some none)
    (z_bool : PySem.W.nsIn K mainGlobals "bool" = some none)
    (z_divmod : PySem.W.nsIn K mainGlobals "divmod" = some none)
    (z_enumerate : PySem.W.nsIn K mainGlobals "enumerate" = some none)
    (z_int : PySem.W.nsIn K mainGlobals "int" = some none)
    (z_isinstance : PySem.W.nsIn K mainGlobals "isinstance" = some none)
    (z_len : PySem.W.nsIn K mainGlobals "len" = some none)
    (z_list : PySem.W.nsIn K mainGlobals "list" = some none)
    (z_max : PySem.W.nsIn K mainGlobals "max" = some none)
    (z_min : PySem.W.nsIn K mainGlobals "min" = some none)
    (z_range : PySem.W.nsIn K mainGlobals "range" = some none)
    (z_repr : PySem.W.nsIn K mainGlobals "repr" = some none)
    (z_sorted : PySem.W.nsIn K mainGlobals "sorted" = some none)
    (z_sum : PySem.W.nsIn K mainGlobals "sum" = some none)
    (z_tuple : PySem.W.nsIn K mainGlobals "tuple" = some none)
    (z_zip : PySem.W.nsIn K mainGlobals "zip" = some none)
    (v_MOST_CELLS : PySem.W.nsIn K mainGlobals "MOST_CELLS" = some (some (.int 40 t_MOST_CELLS)))
    (nd : [lp_law].Nodup)
    : ∃ (fd : FuncData) (cs : List (Addr × Addr)), (∀ p ∈ cs, PySem.W.CodeHd h p.1 p.2 ∧ h.get? p.2 = some (PySem.W.tabObj #[])) ∧ (∀ p ∈ cs, K.lookup p.2 = none) ∧ (∀ (s : Shared) (v : Value), BindsTo s fd ⟨[v], []⟩ [("_law_script", v)]) ∧ ∀ base : Heap, K.In base → base.Ns mainGlobals mg → (∀ p ∈ cs, LamX.TabB base mg p.1 p.2) → FnG l.prog w K mg base 10 fa fd ["_law_script"] (sp_topT K cs) := by
  obtain rfl : f_law = fa := by
    have e := hfa.symm.trans (PySem.W.mg_of X G a_law)
    cases e
    rfl
  let T : (base : Heap) → (∀ p ∈ [(lc_law, lp_law)], LamX.TabB base mg p.1 p.2) → Tx K mg ⟨c_CellError, c_LimitError, c_NoSize, c_NoCell, c_NoCells, c_NoFlip, c_TooWide, c_Board, c_Flip, da_Board____init_0, lp_law⟩ := fun base TB =>
    { lb := base
      tnd := nd
      a__law_pot := f_law_pot
      fd__law_pot := (PySem.W.fnOf "_law_pot" "_law_pot" (defArgs st__law_pot) (defBody st__law_pot) (defScope st__law_pot) .none kV_law_pot dc_law_pot pm_law_pot an_law_pot cd_law_pot ct_law_pot)
      F__law_pot := fun_mk (st := st__law_pot) l_law_pot c_law_pot k_law_pot
      g__law_pot := PySem.W.mg_of X G a_law_pot
      a__law_draw := f_law_draw
      fd__law_draw := (PySem.W.fnOf "_law_draw" "_law_draw" (defArgs st__law_draw) (defBody st__law_draw) (defScope st__law_draw) .none kV_law_draw dc_law_draw pm_law_draw an_law_draw cd_law_draw ct_law_draw)
      F__law_draw := fun_mk (st := st__law_draw) l_law_draw c_law_draw k_law_draw
      g__law_draw := PySem.W.mg_of X G a_law_draw
      a__law_any_thing := f_law_any_thing
      fd__law_any_thing := (PySem.W.fnOf "_law_any_thing" "_law_any_thing" (defArgs st__law_any_thing) (defBody st__law_any_thing) (defScope st__law_any_thing) .none kV_law_any_thing dc_law_any_thing pm_law_any_thing an_law_any_thing cd_law_any_thing ct_law_any_thing)
      F__law_any_thing := fun_mk (st := st__law_any_thing) l_law_any_thing c_law_any_thing k_law_any_thing
      g__law_any_thing := PySem.W.mg_of X G a_law_any_thing
      a__law_one := f_law_one
      fd__law_one := (PySem.W.fnOf "_law_one" "_law_one" (defArgs st__law_one) (defBody st__law_one) (defScope st__law_one) .none kV_law_one dc_law_one pm_law_one an_law_one cd_law_one ct_law_one)
      F__law_one := fun_mk (st := st__law_one) l_law_one c_law_one k_law_one
      g__law_one := PySem.W.mg_of X G a_law_one
      a__law_is_int := f_law_is_int
      fd__law_is_int := (PySem.W.fnOf "_law_is_int" "_law_is_int" (defArgs st__law_is_int) (defBody st__law_is_int) (defScope st__law_is_int) .none kV_law_is_int dc_law_is_int pm_law_is_int an_law_is_int cd_law_is_int ct_law_is_int)
      F__law_is_int := fun_mk (st := st__law_is_int) l_law_is_int c_law_is_int k_law_is_int
      g__law_is_int := PySem.W.mg_of X G a_law_is_int
      a_cells_in := f_cells_in
      fd_cells_in := (PySem.W.fnOf "cells_in" "cells_in" (defArgs st_cells_in) (defBody st_cells_in) (defScope st_cells_in) .none kV_cells_in dc_cells_in pm_cells_in an_cells_in cd_cells_in ct_cells_in)
      F_cells_in := fun_mk (st := st_cells_in) l_cells_in c_cells_in k_cells_in
      g_cells_in := PySem.W.mg_of X G a_cells_in
      a_Flip__toggled := f_Flip__toggled
      fd_Flip__toggled := (PySem.W.fnOf "toggled" "Flip.toggled" (defArgs st_Flip__toggled) (defBody st_Flip__toggled) (defScope st_Flip__toggled) .none kV_Flip__toggled dc_Flip__toggled pm_Flip__toggled an_Flip__toggled cd_Flip__toggled ct_Flip__toggled)
      F_Flip__toggled := fun_mk (st := st_Flip__toggled) l_Flip__toggled c_Flip__toggled k_Flip__toggled
      m_Flip__toggled := ⟨a_Flip__toggled, i_Flip__toggled, k_Flip__toggled⟩
      a_Flip__tested := f_Flip__tested
      fd_Flip__tested := (PySem.W.fnOf "tested" "Flip.tested" (defArgs st_Flip__tested) (defBody st_Flip__tested) (defScope st_Flip__tested) .none kV_Flip__tested dc_Flip__tested pm_Flip__tested an_Flip__tested cd_Flip__tested ct_Flip__tested)
      F_Flip__tested := fun_mk (st := st_Flip__tested) l_Flip__tested c_Flip__tested k_Flip__tested
      m_Flip__tested := ⟨a_Flip__tested, i_Flip__tested, k_Flip__tested⟩
      a__law_met := f_law_met
      fd__law_met := (PySem.W.fnOf "_law_met" "_law_met" (defArgs st__law_met) (defBody st__law_met) (defScope st__law_met) .none kV_law_met dc_law_met pm_law_met an_law_met cd_law_met ct_law_met)
      F__law_met := fun_mk (st := st__law_met) l_law_met c_law_met k_law_met
      g__law_met := PySem.W.mg_of X G a_law_met
      a_is_integer_in := f_is_integer_in
      fd_is_integer_in := (PySem.W.fnOf "is_integer_in" "is_integer_in" (defArgs st_is_integer_in) (defBody st_is_integer_in) (defScope st_is_integer_in) .none kV_is_integer_in dc_is_integer_in pm_is_integer_in an_is_integer_in cd_is_integer_in ct_is_integer_in)
      F_is_integer_in := fun_mk (st := st_is_integer_in) l_is_integer_in c_is_integer_in k_is_integer_in
      g_is_integer_in := PySem.W.mg_of X G a_is_integer_in
      a_require_cell := f_require_cell
      fd_require_cell := (PySem.W.fnOf "require_cell" "require_cell" (defArgs st_require_cell) (defBody st_require_cell) (defScope st_require_cell) .none kV_require_cell dc_require_cell pm_require_cell an_require_cell cd_require_cell ct_require_cell)
      F_require_cell := fun_mk (st := st_require_cell) l_require_cell c_require_cell k_require_cell
      g_require_cell := PySem.W.mg_of X G a_require_cell
      a_mask_of := f_mask_of
      fd_mask_of := (PySem.W.fnOf "mask_of" "mask_of" (defArgs st_mask_of) (defBody st_mask_of) (defScope st_mask_of) .none kV_mask_of dc_mask_of pm_mask_of an_mask_of cd_mask_of ct_mask_of)
      F_mask_of := fun_mk (st := st_mask_of) l_mask_of c_mask_of k_mask_of
      g_mask_of := PySem.W.mg_of X G a_mask_of
      a_is_cell := f_is_cell
      fd_is_cell := (PySem.W.fnOf "is_cell" "is_cell" (defArgs st_is_cell) (defBody st_is_cell) (defScope st_is_cell) .none (.ref kd_is_cell) dc_is_cell pm_is_cell an_is_cell cd_is_cell ct_is_cell)
      F_is_cell := fun_mk (st := st_is_cell) l_is_cell c_is_cell k_is_cell
      g_is_cell := PySem.W.mg_of X G a_is_cell
      D_is_cell := funD_of (st := st_is_cell) l_is_cell c_is_cell k_is_cell (by simpa using ⟨_, kw_is_cell_0, _, rfl⟩)
      a_cell_tuple := f_cell_tuple
      fd_cell_tuple := (PySem.W.fnOf "cell_tuple" "cell_tuple" (defArgs st_cell_tuple) (defBody st_cell_tuple) (defScope st_cell_tuple) .none (.ref kd_cell_tuple) dc_cell_tuple pm_cell_tuple an_cell_tuple cd_cell_tuple ct_cell_tuple)
      F_cell_tuple := fun_mk (st := st_cell_tuple) l_cell_tuple c_cell_tuple k_cell_tuple
      g_cell_tuple := PySem.W.mg_of X G a_cell_tuple
      D_cell_tuple := funD_of (st := st_cell_tuple) l_cell_tuple c_cell_tuple k_cell_tuple (by simpa using ⟨_, kw_cell_tuple_0, _, rfl⟩)
      a_cell_mask := f_cell_mask
      fd_cell_mask := (PySem.W.fnOf "cell_mask" "cell_mask" (defArgs st_cell_mask) (defBody st_cell_mask) (defScope st_cell_mask) .none kV_cell_mask dc_cell_mask pm_cell_mask an_cell_mask cd_cell_mask ct_cell_mask)
      F_cell_mask := fun_mk (st := st_cell_mask) l_cell_mask c_cell_mask k_cell_mask
      g_cell_mask := PySem.W.mg_of X G a_cell_mask
      a_is_odd := f_is_odd
      fd_is_odd := (PySem.W.fnOf "is_odd" "is_odd" (defArgs st_is_odd) (defBody st_is_odd) (defScope st_is_odd) .none kV_is_odd dc_is_odd pm_is_odd an_is_odd cd_is_odd ct_is_odd)
      F_is_odd := fun_mk (st := st_is_odd) l_is_odd c_is_odd k_is_odd
      g_is_odd := PySem.W.mg_of X G a_is_odd
      a_Flip____init__ := f_Flip____init
      fd_Flip____init__ := (PySem.W.fnOf "__init__" "Flip.__init__" (defArgs st_Flip____init__) (defBody st_Flip____init__) (defScope st_Flip____init__) .none kV_Flip____init dc_Flip____init pm_Flip____init an_Flip____init cd_Flip____init ct_Flip____init)
      F_Flip____init__ := fun_mk (st := st_Flip____init__) l_Flip____init c_Flip____init k_Flip____init
      mk_Flip := ⟨mk_Flip, a_Flip____init, i_Flip____init, kC_Flip⟩
      a_turn_flip := f_turn_flip
      fd_turn_flip := (PySem.W.fnOf "turn_flip" "turn_flip" (defArgs st_turn_flip) (defBody st_turn_flip) (defScope st_turn_flip) .none kV_turn_flip dc_turn_flip pm_turn_flip an_turn_flip cd_turn_flip ct_turn_flip)
      F_turn_flip := fun_mk (st := st_turn_flip) l_turn_flip c_turn_flip k_turn_flip
      g_turn_flip := PySem.W.mg_of X G a_turn_flip
      a_add_flip := f_add_flip
      fd_add_flip := (PySem.W.fnOf "add_flip" "add_flip" (defArgs st_add_flip) (defBody st_add_flip) (defScope st_add_flip) .none kV_add_flip dc_add_flip pm_add_flip an_add_flip cd_add_flip ct_add_flip)
      F_add_flip := fun_mk (st := st_add_flip) l_add_flip c_add_flip k_add_flip
      g_add_flip := PySem.W.mg_of X G a_add_flip
      a__law_due := f_law_due
      fd__law_due := (PySem.W.fnOf "_law_due" "_law_due" (defArgs st__law_due) (defBody st__law_due) (defScope st__law_due) .none kV_law_due dc_law_due pm_law_due an_law_due cd_law_due ct_law_due)
      F__law_due := fun_mk (st := st__law_due) l_law_due c_law_due k_law_due
      g__law_due := PySem.W.mg_of X G a_law_due
      a_swap_flip := f_swap_flip
      fd_swap_flip := (PySem.W.fnOf "swap_flip" "swap_flip" (defArgs st_swap_flip) (defBody st_swap_flip) (defScope st_swap_flip) .none kV_swap_flip dc_swap_flip pm_swap_flip an_swap_flip cd_swap_flip ct_swap_flip)
      F_swap_flip := fun_mk (st := st_swap_flip) l_swap_flip c_swap_flip k_swap_flip
      g_swap_flip := PySem.W.mg_of X G a_swap_flip
      a__law_bits := f_law_bits
      fd__law_bits := (PySem.W.fnOf "_law_bits" "_law_bits" (defArgs st__law_bits) (defBody st__law_bits) (defScope st__law_bits) .none kV_law_bits dc_law_bits pm_law_bits an_law_bits cd_law_bits ct_law_bits)
      F__law_bits := fun_mk (st := st__law_bits) l_law_bits c_law_bits k_law_bits
      g__law_bits := PySem.W.mg_of X G a_law_bits
      a_require_size := f_require_size
      fd_require_size := (PySem.W.fnOf "require_size" "require_size" (defArgs st_require_size) (defBody st_require_size) (defScope st_require_size) .none kV_require_size dc_require_size pm_require_size an_require_size cd_require_size ct_require_size)
      F_require_size := fun_mk (st := st_require_size) l_require_size c_require_size k_require_size
      g_require_size := PySem.W.mg_of X G a_require_size
      a_Board____init__ := f_Board____init
      fd_Board____init__ := (PySem.W.fnOf "__init__" "Board.__init__" (defArgs st_Board____init__) (defBody st_Board____init__) (defScope st_Board____init__) .none (.ref kd_Board____init) dc_Board____init pm_Board____init an_Board____init cd_Board____init ct_Board____init)
      F_Board____init__ := fun_mk (st := st_Board____init__) l_Board____init c_Board____init k_Board____init
      mk_Board := ⟨mk_Board, a_Board____init, i_Board____init, kC_Board⟩
      dt_Board____init___up := .inr ⟨_, #[], _, kt_Board____init_0, rfl, rfl, Nat.zero_le _, .nil⟩
      D_Board____init__ := funD_of (st := st_Board____init__) l_Board____init c_Board____init k_Board____init (by simpa using ⟨_, kw_Board____init_0, rfl⟩)
      a__law_up := f_law_up
      fd__law_up := (PySem.W.fnOf "_law_up" "_law_up" (defArgs st__law_up) (defBody st__law_up) (defScope st__law_up) .none kV_law_up dc_law_up pm_law_up an_law_up cd_law_up ct_law_up)
      F__law_up := fun_mk (st := st__law_up) l_law_up c_law_up k_law_up
      g__law_up := PySem.W.mg_of X G a_law_up
      a__law_made := f_law_made
      fd__law_made := (PySem.W.fnOf "_law_made" "_law_made" (defArgs st__law_made) (defBody st__law_made) (defScope st__law_made) .none kV_law_made dc_law_made pm_law_made an_law_made cd_law_made ct_law_made)
      F__law_made := fun_mk (st := st__law_made) l_law_made c_law_made k_law_made
      g__law_made := PySem.W.mg_of X G a_law_made
      a_Board__size := f_Board__size
      fd_Board__size := (PySem.W.fnOf "size" "Board.size" (defArgs st_Board__size) (defBody st_Board__size) (defScope st_Board__size) .none kV_Board__size dc_Board__size pm_Board__size an_Board__size cd_Board__size ct_Board__size)
      F_Board__size := fun_mk (st := st_Board__size) l_Board__size c_Board__size k_Board__size
      m_Board__size := ⟨a_Board__size, i_Board__size, k_Board__size⟩
      a_Board__up := f_Board__up
      fd_Board__up := (PySem.W.fnOf "up" "Board.up" (defArgs st_Board__up) (defBody st_Board__up) (defScope st_Board__up) .none kV_Board__up dc_Board__up pm_Board__up an_Board__up cd_Board__up ct_Board__up)
      F_Board__up := fun_mk (st := st_Board__up) l_Board__up c_Board__up k_Board__up
      m_Board__up := ⟨a_Board__up, i_Board__up, k_Board__up⟩
      a__law_is_so := f_law_is_so
      fd__law_is_so := (PySem.W.fnOf "_law_is_so" "_law_is_so" (defArgs st__law_is_so) (defBody st__law_is_so) (defScope st__law_is_so) .none kV_law_is_so dc_law_is_so pm_law_is_so an_law_is_so cd_law_is_so ct_law_is_so)
      F__law_is_so := fun_mk (st := st__law_is_so) l_law_is_so c_law_is_so k_law_is_so
      g__law_is_so := PySem.W.mg_of X G a_law_is_so
      a_Flip__width := f_Flip__width
      fd_Flip__width := (PySem.W.fnOf "width" "Flip.width" (defArgs st_Flip__width) (defBody st_Flip__width) (defScope st_Flip__width) .none kV_Flip__width dc_Flip__width pm_Flip__width an_Flip__width cd_Flip__width ct_Flip__width)
      F_Flip__width := fun_mk (st := st_Flip__width) l_Flip__width c_Flip__width k_Flip__width
      m_Flip__width := ⟨a_Flip__width, i_Flip__width, k_Flip__width⟩
      a_require_fit := f_require_fit
      fd_require_fit := (PySem.W.fnOf "require_fit" "require_fit" (defArgs st_require_fit) (defBody st_require_fit) (defScope st_require_fit) .none kV_require_fit dc_require_fit pm_require_fit an_require_fit cd_require_fit ct_require_fit)
      F_require_fit := fun_mk (st := st_require_fit) l_require_fit c_require_fit k_require_fit
      g_require_fit := PySem.W.mg_of X G a_require_fit
      a_board_of := f_board_of
      fd_board_of := (PySem.W.fnOf "board_of" "board_of" (defArgs st_board_of) (defBody st_board_of) (defScope st_board_of) .none kV_board_of dc_board_of pm_board_of an_board_of cd_board_of ct_board_of)
      F_board_of := fun_mk (st := st_board_of) l_board_of c_board_of k_board_of
      g_board_of := PySem.W.mg_of X G a_board_of
      a_mask_after := f_mask_after
      fd_mask_after := (PySem.W.fnOf "mask_after" "mask_after" (defArgs st_mask_after) (defBody st_mask_after) (defScope st_mask_after) .none kV_mask_after dc_mask_after pm_mask_after an_mask_after cd_mask_after ct_mask_after)
      F_mask_after := fun_mk (st := st_mask_after) l_mask_after c_mask_after k_mask_after
      g_mask_after := PySem.W.mg_of X G a_mask_after
      a_apply_flip := f_apply_flip
      fd_apply_flip := (PySem.W.fnOf "apply_flip" "apply_flip" (defArgs st_apply_flip) (defBody st_apply_flip) (defScope st_apply_flip) .none kV_apply_flip dc_apply_flip pm_apply_flip an_apply_flip cd_apply_flip ct_apply_flip)
      F_apply_flip := fun_mk (st := st_apply_flip) l_apply_flip c_apply_flip k_apply_flip
      g_apply_flip := PySem.W.mg_of X G a_apply_flip
      a__law_effects_right := f_law_effects_right
      fd__law_effects_right := (PySem.W.fnOf "_law_effects_right" "_law_effects_right" (defArgs st__law_effects_right) (defBody st__law_effects_right) (defScope st__law_effects_right) .none kV_law_effects_right dc_law_effects_right pm_law_effects_right an_law_effects_right cd_law_effects_right ct_law_effects_right)
      F__law_effects_right := fun_mk (st := st__law_effects_right) l_law_effects_right c_law_effects_right k_law_effects_right
      g__law_effects_right := PySem.W.mg_of X G a_law_effects_right
      lc_law := lc_law
      lk_law := rfl
      tb_law := TB (lc_law, lp_law) (by simp)
      a_law := f_law
      fd_law := (PySem.W.fnOf "law" "law" (defArgs st_law) (defBody st_law) (defScope st_law) .none kV_law dc_law pm_law an_law (.ref lc_law) ct_law)
      F_law := fun_mk (st := st_law) l_law c_law k_law
      g_law := PySem.W.mg_of X G a_law
      gc_Board := PySem.W.mg_of X G aC_Board
      cls_Board := ⟨pg_Board, hd_Board, po_Board, sa_Board⟩
      ty_Board := ⟨ca_Board, ob_Board⟩
      no_Board_own_size := no_Board_own_size
      no_Board_up_mask := no_Board_up_mask
      gc_Flip := PySem.W.mg_of X G aC_Flip
      cls_Flip := ⟨pg_Flip, hd_Flip, po_Flip, sa_Flip⟩
      ty_Flip := ⟨ca_Flip, ob_Flip⟩
      no_Flip_test_mask := no_Flip_test_mask
      no_Flip_toggle_mask := no_Flip_toggle_mask
      q_CellError := ⟨ga_CellError, gg_CellError, eC_CellError, hd_CellError, ic_CellError, tC_CellError, ca_CellError, ob_CellError, me_CellError⟩
      q_LimitError := ⟨ga_LimitError, gg_LimitError, eC_LimitError, hd_LimitError, ic_LimitError, tC_LimitError, ca_LimitError, ob_LimitError, me_LimitError⟩
      q_NoSize := ⟨ga_NoSize, gg_NoSize, eC_NoSize, hd_NoSize, ic_NoSize, tC_NoSize, ca_NoSize, ob_NoSize, me_NoSize⟩
      q_NoCell := ⟨ga_NoCell, gg_NoCell, eC_NoCell, hd_NoCell, ic_NoCell, tC_NoCell, ca_NoCell, ob_NoCell, me_NoCell⟩
      q_NoCells := ⟨ga_NoCells, gg_NoCells, eC_NoCells, hd_NoCells, ic_NoCells, tC_NoCells, ca_NoCells, ob_NoCells, me_NoCells⟩
      q_NoFlip := ⟨ga_NoFlip, gg_NoFlip, eC_NoFlip, hd_NoFlip, ic_NoFlip, tC_NoFlip, ca_NoFlip, ob_NoFlip, me_NoFlip⟩
      q_TooWide := ⟨ga_TooWide, gg_TooWide, eC_TooWide, hd_TooWide, ic_TooWide, tC_TooWide, ca_TooWide, ob_TooWide, me_TooWide⟩
      g_CellError := PySem.W.mg_of X G aC_CellError
      g_LimitError := PySem.W.mg_of X G aC_LimitError
      f_NoSize := fI_NoSize
      e_NoSize := { bb := eb_value, gC := PySem.W.mg_of X G aC_NoSize, gD := PySem.W.mg_of X G aC_CellError, cls := ⟨_, _, _, _, _, _, _, _, _, _, _, _, _, _, xL_NoSize⟩, sa := sa_NoSize, noF := by intro y hy; rcases (by simpa using hy : y = "value") with rfl <;> first | exact no_NoSize_0, iC := iI_NoSize, tI := tI_NoSize, kC := kC_NoSize, eC := eC_NoSize, tC := tC_NoSize, rD := rD_CellError, gaD := gD_CellError, iD := iD_CellError, fn := ⟨"NoSize.__init__", _, _, _, _, _, _, _, _, _, lI_NoSize, cI_NoSize, d_NoSize⟩ }
      f_NoCell := fI_NoCell
      e_NoCell := { bb := eb_value, gC := PySem.W.mg_of X G aC_NoCell, gD := PySem.W.mg_of X G aC_CellError, cls := ⟨_, _, _, _, _, _, _, _, _, _, _, _, _, _, xL_NoCell⟩, sa := sa_NoCell, noF := by intro y hy; rcases (by simpa using hy : y = "cell") with rfl <;> first | exact no_NoCell_0, iC := iI_NoCell, tI := tI_NoCell, kC := kC_NoCell, eC := eC_NoCell, tC := tC_NoCell, rD := rD_CellError, gaD := gD_CellError, iD := iD_CellError, fn := ⟨"NoCell.__init__", _, _, _, _, _, _, _, _, _, lI_NoCell, cI_NoCell, d_NoCell⟩ }
      f_NoCells := fI_NoCells
      e_NoCells := { bb := eb_value, gC := PySem.W.mg_of X G aC_NoCells, gD := PySem.W.mg_of X G aC_CellError, cls := ⟨_, _, _, _, _, _, _, _, _, _, _, _, _, _, xL_NoCells⟩, sa := sa_NoCells, noF := by intro y hy; rcases (by simpa using hy : y = "cells") with rfl <;> first | exact no_NoCells_0, iC := iI_NoCells, tI := tI_NoCells, kC := kC_NoCells, eC := eC_NoCells, tC := tC_NoCells, rD := rD_CellError, gaD := gD_CellError, iD := iD_CellError, fn := ⟨"NoCells.__init__", _, _, _, _, _, _, _, _, _, lI_NoCells, cI_NoCells, d_NoCells⟩ }
      f_NoFlip := fI_NoFlip
      e_NoFlip := { bb := eb_value, gC := PySem.W.mg_of X G aC_NoFlip, gD := PySem.W.mg_of X G aC_CellError, cls := ⟨_, _, _, _, _, _, _, _, _, _, _, _, _, _, xL_NoFlip⟩, sa := sa_NoFlip, noF := by intro y hy; rcases (by simpa using hy : y = "why") with rfl <;> first | exact no_NoFlip_0, iC := iI_NoFlip, tI := tI_NoFlip, kC := kC_NoFlip, eC := eC_NoFlip, tC := tC_NoFlip, rD := rD_CellError, gaD := gD_CellError, iD := iD_CellError, fn := ⟨"NoFlip.__init__", _, _, _, _, _, _, _, _, _, lI_NoFlip, cI_NoFlip, d_NoFlip⟩ }
      f_TooWide := fI_TooWide
      e_TooWide := { bb := eb_arith, gC := PySem.W.mg_of X G aC_TooWide, gD := PySem.W.mg_of X G aC_LimitError, cls := ⟨_, _, _, _, _, _, _, _, _, _, _, _, _, _, xL_TooWide⟩, sa := sa_TooWide, noF := by intro y hy; rcases (by simpa using hy : y = "needed") with rfl <;> first | exact no_TooWide_0, iC := iI_TooWide, tI := tI_TooWide, kC := kC_TooWide, eC := eC_TooWide, tC := tC_TooWide, rD := rD_LimitError, gaD := gD_LimitError, iD := iD_LimitError, fn := ⟨"TooWide.__init__", _, _, _, _, _, _, _, _, _, lI_TooWide, cI_TooWide, d_TooWide⟩ }
      cq := ⟨cq1, cq2⟩
      s_NoSize_CellError := s_NoSize_CellError
      s_NoSize_NoCell := s_NoSize_NoCell
      s_NoSize_NoCells := s_NoSize_NoCells
      s_NoSize_NoFlip := s_NoSize_NoFlip
      s_NoCell_CellError := s_NoCell_CellError
      s_NoCell_NoCell := s_NoCell_NoCell
      s_NoCell_NoCells := s_NoCell_NoCells
      s_NoCell_NoFlip := s_NoCell_NoFlip
      s_NoCells_CellError := s_NoCells_CellError
      s_NoCells_NoCell := s_NoCells_NoCell
      s_NoCells_NoCells := s_NoCells_NoCells
      s_NoCells_NoFlip := s_NoCells_NoFlip
      s_NoFlip_CellError := s_NoFlip_CellError
      s_NoFlip_NoCell := s_NoFlip_NoCell
      s_NoFlip_NoCells := s_NoFlip_NoCells
      s_NoFlip_NoFlip := s_NoFlip_NoFlip
      s_TooWide_CellError := s_TooWide_CellError
      s_TooWide_NoCell := s_TooWide_NoCell
      s_TooWide_NoCells := s_TooWide_NoCells
      s_TooWide_NoFlip := s_TooWide_NoFlip
      z_abs := PySem.W.mg_none_of X G z_abs
      z_all := PySem.W.mg_none_of X G z_all
      z_bool := PySem.W.mg_none_of X G z_bool
      z_divmod := PySem.W.mg_none_of X G z_divmod
      z_enumerate := PySem.W.mg_none_of X G z_enumerate
      z_int := PySem.W.mg_none_of X G z_int
      z_isinstance := PySem.W.mg_none_of X G z_isinstance
      z_len := PySem.W.mg_none_of X G z_len
      z_list := PySem.W.mg_none_of X G z_list
      z_max := PySem.W.mg_none_of X G z_max
      z_min := PySem.W.mg_none_of X G z_min
      z_range := PySem.W.mg_none_of X G z_range
      z_repr := PySem.W.mg_none_of X G z_repr
      z_sorted := PySem.W.mg_none_of X G z_sorted
      z_sum := PySem.W.mg_none_of X G z_sum
      z_tuple := PySem.W.mg_none_of X G z_tuple
      z_zip := PySem.W.mg_none_of X G z_zip
      t_MOST_CELLS := t_MOST_CELLS
      c_MOST_CELLS := PySem.W.mg_of X G v_MOST_CELLS }
  refine ⟨(PySem.W.fnOf "law" "law" (defArgs st_law) (defBody st_law) (defScope st_law) .none kV_law dc_law pm_law an_law (.ref lc_law) ct_law), [(lc_law, lp_law)], ?_, ?_, fun s v => .of_eq rfl, fun base _ _ TB => (ok_law (T base TB)).imp fun vs H Q E q => law_inT (ts := tabs ⟨c_CellError, c_LimitError, c_NoSize, c_NoCell, c_NoCells, c_NoFlip, c_TooWide, c_Board, c_Flip, da_Board____init_0, lp_law⟩) rfl q (fun ns hn => law_holds (T base TB) ns hn)⟩
  · intro p hp
    simp only [List.mem_cons, List.not_mem_nil, or_false] at hp
    rcases hp with rfl
    · exact hTab "law" _ _ rc_law tb_law
  · intro p hp
    simp only [List.mem_cons, List.not_mem_nil, or_false] at hp
    rcases hp with rfl
    · exact nk_law
end PX
open PySem PySem.W PyProof.Rows
set_option maxRecDepth 100000 in
set_option maxHeartbeats 0 in
theorem PySem.Challenge.cw_paritycells_k17_three_simple_flips_holds : PySem.Challenge.rw_paritycells_k17_three_simple_flips.Holds := by
  w_on; o_law; k_head; (case hw => w_witness2)
  k_fill
  refine PC.walkGT (l := PySem.Challenge.rw_paritycells_k17_three_simple_flips) (n := 63) (k := 10) (x := "_law_script") (sp := fun w cs => TL.sp_topT _ cs) rfl (by decide) rfl ⟨rfl, by decide, by decide⟩ (fun w h Y => PySem.W.km_in_of Y) ?K1 (by first | rfl | decide +kernel) ?F (fun _ _ _ a ns hl hb h1 h2 hS => ⟨a, ns, rfl, h1, h2, hS, hl, fun _ => rfl⟩)
  case K1 => intro w; first | rfl | k_is | decide +kernel
  case F =>
    intro w mg fa h KX G hTab hmg
    refine' PX.all_mk KX G hTab hmg ?aC_Flip ?aC_Board ?a_law_pot ?l_law_pot ?c_law_pot ?k_law_pot ?a_law_draw ?l_law_draw ?c_law_draw ?k_law_draw ?a_law_any_thing ?l_law_any_thing ?c_law_any_thing ?k_law_any_thing ?a_law_one ?l_law_one ?c_law_one ?k_law_one ?a_law_is_int ?l_law_is_int ?c_law_is_int ?k_law_is_int ?a_cells_in ?l_cells_in ?c_cells_in ?k_cells_in ?a_Flip__toggled ?i_Flip__toggled ?l_Flip__toggled ?c_Flip__toggled ?k_Flip__toggled ?a_Flip__tested ?i_Flip__tested ?l_Flip__tested ?c_Flip__tested ?k_Flip__tested ?a_law_met ?l_law_met ?c_law_met ?k_law_met ?a_is_integer_in ?l_is_integer_in ?c_is_integer_in ?k_is_integer_in ?a_require_cell ?l_require_cell ?c_require_cell ?k_require_cell ?a_mask_of ?l_mask_of ?c_mask_of ?k_mask_of ?a_is_cell ?l_is_cell ?c_is_cell ?k_is_cell ?kw_is_cell_0 ?a_cell_tuple ?l_cell_tuple ?c_cell_tuple ?k_cell_tuple ?kw_cell_tuple_0 ?a_cell_mask ?l_cell_mask ?c_cell_mask ?k_cell_mask ?a_is_odd ?l_is_odd ?c_is_odd ?k_is_odd ?a_Flip____init ?i_Flip____init ?l_Flip____init ?c_Flip____init ?k_Flip____init ?a_turn_flip ?l_turn_flip ?c_turn_flip ?k_turn_flip ?a_add_flip ?l_add_flip ?c_add_flip ?k_add_flip ?a_law_due ?l_law_due ?c_law_due ?k_law_due ?a_swap_flip ?l_swap_flip ?c_swap_flip ?k_swap_flip ?a_law_bits ?l_law_bits ?c_law_bits ?k_law_bits ?a_require_size ?l_require_size ?c_require_size ?k_require_size ?a_Board____init ?i_Board____init ?l_Board____init ?c_Board____init ?k_Board____init ?kw_Board____init_0 ?kt_Board____init_0 ?a_law_up ?l_law_up ?c_law_up ?k_law_up ?a_law_made ?l_law_made ?c_law_made ?k_law_made ?a_Board__size ?i_Board__size ?l_Board__size ?c_Board__size ?k_Board__size ?a_Board__up ?i_Board__up ?l_Board__up ?c_Board__up ?k_Board__up ?a_law_is_so ?l_law_is_so ?c_law_is_so ?k_law_is_so ?a_Flip__width ?i_Flip__width ?l_Flip__width ?c_Flip__width ?k_Flip__width ?a_require_fit ?l_require_fit ?c_require_fit ?k_require_fit ?a_board_of ?l_board_of ?c_board_of ?k_board_of ?a_mask_after ?l_mask_after ?c_mask_after ?k_mask_after ?a_apply_flip ?l_apply_flip ?c_apply_flip ?k_apply_flip ?a_law_effects_right ?l_law_effects_right ?c_law_effects_right ?k_law_effects_right ?a_law ?tb_law ?nk_law ?rc_law ?l_law ?c_law ?k_law ?pg_Board ?hd_Board ?po_Board ?sa_Board ?mk_Board ?ca_Board ?ob_Board ?kC_Board ?no_Board_own_size ?no_Board_up_mask ?pg_Flip ?hd_Flip ?po_Flip ?sa_Flip ?mk_Flip ?ca_Flip ?ob_Flip ?kC_Flip ?no_Flip_test_mask ?no_Flip_toggle_mask ?aC_CellError ?aC_LimitError ?aC_NoSize ?aC_NoCell ?aC_NoCells ?aC_NoFlip ?aC_TooWide ?ga_CellError ?gg_CellError ?eC_CellError ?hd_CellError ?ic_CellError ?tC_CellError ?ca_CellError ?ob_CellError ?me_CellError ?ga_LimitError ?gg_LimitError ?eC_LimitError ?hd_LimitError ?ic_LimitError ?tC_LimitError ?ca_LimitError ?ob_LimitError ?me_LimitError ?ga_NoSize ?gg_NoSize ?eC_NoSize ?hd_NoSize ?ic_NoSize ?tC_NoSize ?ca_NoSize ?ob_NoSize ?me_NoSize ?ga_NoCell ?gg_NoCell ?eC_NoCell ?hd_NoCell ?ic_NoCell ?tC_NoCell ?ca_NoCell ?ob_NoCell ?me_NoCell ?ga_NoCells ?gg_NoCells ?eC_NoCells ?hd_NoCells ?ic_NoCells ?tC_NoCells ?ca_NoCells ?ob_NoCells ?me_NoCells ?ga_NoFlip ?gg_NoFlip ?eC_NoFlip ?hd_NoFlip ?ic_NoFlip ?tC_NoFlip ?ca_NoFlip ?ob_NoFlip ?me_NoFlip ?ga_TooWide ?gg_TooWide ?eC_TooWide ?hd_TooWide ?ic_TooWide ?tC_TooWide ?ca_TooWide ?ob_TooWide ?me_TooWide ?rD_CellError ?gD_CellError ?iD_CellError ?rD_LimitError ?gD_LimitError ?iD_LimitError ?xL_NoSize ?sa_NoSize ?no_NoSize_0 ?iI_NoSize ?tI_NoSize ?lI_NoSize ?cI_NoSize ?kC_NoSize ?xL_NoCell ?sa_NoCell ?no_NoCell_0 ?iI_NoCell ?tI_NoCell ?lI_NoCell ?cI_NoCell ?kC_NoCell ?xL_NoCells ?sa_NoCells ?no_NoCells_0 ?iI_NoCells ?tI_NoCells ?lI_NoCells ?cI_NoCells ?kC_NoCells ?xL_NoFlip ?sa_NoFlip ?no_NoFlip_0 ?iI_NoFlip ?tI_NoFlip ?lI_NoFlip ?cI_NoFlip ?kC_NoFlip ?xL_TooWide ?sa_TooWide ?no_TooWide_0 ?iI_TooWide ?tI_TooWide ?lI_TooWide ?cI_TooWide ?kC_TooWide ?cq1 ?cq2 ?s_NoSize_CellError ?s_NoSize_NoCell ?s_NoSize_NoCells ?s_NoSize_NoFlip ?s_NoCell_CellError ?s_NoCell_NoCell ?s_NoCell_NoCells ?s_NoCell_NoFlip ?s_NoCells_CellError ?s_NoCells_NoCell ?s_NoCells_NoCells ?s_NoCells_NoFlip ?s_NoFlip_CellError ?s_NoFlip_NoCell ?s_NoFlip_NoCells ?s_NoFlip_NoFlip ?s_TooWide_CellError ?s_TooWide_NoCell ?s_TooWide_NoCells ?s_TooWide_NoFlip ?z_abs ?z_all ?z_bool ?z_divmod ?z_enumerate ?z_int ?z_isinstance ?z_len ?z_list ?z_max ?z_min ?z_range ?z_repr ?z_sorted ?z_sum ?z_tuple ?z_zip ?v_MOST_CELLS ?nd
    (case aC_Flip => k_is)
    (case aC_Board => k_is)
    (case a_law_pot => k_is)
    (case l_law_pot => k_is)
    (case c_law_pot => k_is)
    (case k_law_pot => k_is)
    (case a_law_draw => k_is)
    (case l_law_draw => k_is)
    (case c_law_draw => k_is)
    (case k_law_draw => k_is)
    (case a_law_any_thing => k_is)
    (case l_law_any_thing => k_is)
    (case c_law_any_thing => k_is)
    (case k_law_any_thing => k_is)
    (case a_law_one => k_is)
    (case l_law_one => k_is)
    (case c_law_one => k_is)
    (case k_law_one => k_is)
    (case a_law_is_int => k_is)
    (case l_law_is_int => k_is)
    (case c_law_is_int => k_is)
    (case k_law_is_int => k_is)
    (case a_cells_in => k_is)
    (case l_cells_in => k_is)
    (case c_cells_in => k_is)
    (case k_cells_in => k_is)
    (case a_Flip__toggled => k_is)
    (case i_Flip__toggled => k_is)
    (case l_Flip__toggled => k_is)
    (case c_Flip__toggled => k_is)
    (case k_Flip__toggled => k_is)
    (case a_Flip__tested => k_is)
    (case i_Flip__tested => k_is)
    (case l_Flip__tested => k_is)
    (case c_Flip__tested => k_is)
    (case k_Flip__tested => k_is)
    (case a_law_met => k_is)
    (case l_law_met => k_is)
    (case c_law_met => k_is)
    (case k_law_met => k_is)
    (case a_is_integer_in => k_is)
    (case l_is_integer_in => k_is)
    (case c_is_integer_in => k_is)
    (case k_is_integer_in => k_is)
    (case a_require_cell => k_is)
    (case l_require_cell => k_is)
    (case c_require_cell => k_is)
    (case k_require_cell => k_is)
    (case a_mask_of => k_is)
    (case l_mask_of => k_is)
    (case c_mask_of => k_is)
    (case k_mask_of => k_is)
    (case a_is_cell => k_is)
    (case l_is_cell => k_is)
    (case c_is_cell => k_is)
    (case k_is_cell => k_is)
    (case kw_is_cell_0 => k_is)
    (case a_cell_tuple => k_is)
    (case l_cell_tuple => k_is)
    (case c_cell_tuple => k_is)
    (case k_cell_tuple => k_is)
    (case kw_cell_tuple_0 => k_is)
    (case a_cell_mask => k_is)
    (case l_cell_mask => k_is)
    (case c_cell_mask => k_is)
    (case k_cell_mask => k_is)
    (case a_is_odd => k_is)
    (case l_is_odd => k_is)
    (case c_is_odd => k_is)
    (case k_is_odd => k_is)
    (case a_Flip____init => k_is)
    (case i_Flip____init => k_is)
    (case l_Flip____init => k_is)
    (case c_Flip____init => k_is)
    (case k_Flip____init => k_is)
    (case a_turn_flip => k_is)
    (case l_turn_flip => k_is)
    (case c_turn_flip => k_is)
    (case k_turn_flip => k_is)
    (case a_add_flip => k_is)
    (case l_add_flip => k_is)
    (case c_add_flip => k_is)
    (case k_add_flip => k_is)
    (case a_law_due => k_is)
    (case l_law_due => k_is)
    (case c_law_due => k_is)
    (case k_law_due => k_is)
    (case a_swap_flip => k_is)
    (case l_swap_flip => k_is)
    (case c_swap_flip => k_is)
    (case k_swap_flip => k_is)
    (case a_law_bits => k_is)
    (case l_law_bits => k_is)
    (case c_law_bits => k_is)
    (case k_law_bits => k_is)
    (case a_require_size => k_is)
    (case l_require_size => k_is)
    (case c_require_size => k_is)
    (case k_require_size => k_is)
    (case a_Board____init => k_is)
    (case i_Board____init => k_is)
    (case l_Board____init => k_is)
    (case c_Board____init => k_is)
    (case k_Board____init => k_is)
    (case kw_Board____init_0 => k_is)
    (case kt_Board____init_0 => k_is)
    (case a_law_up => k_is)
    (case l_law_up => k_is)
    (case c_law_up => k_is)
    (case k_law_up => k_is)
    (case a_law_made => k_is)
    (case l_law_made => k_is)
    (case c_law_made => k_is)
    (case k_law_made => k_is)
    (case a_Board__size => k_is)
    (case i_Board__size => k_is)
    (case l_Board__size => k_is)
    (case c_Board__size => k_is)
    (case k_Board__size => k_is)
    (case a_Board__up => k_is)
    (case i_Board__up => k_is)
    (case l_Board__up => k_is)
    (case c_Board__up => k_is)
    (case k_Board__up => k_is)
    (case a_law_is_so => k_is)
    (case l_law_is_so => k_is)
    (case c_law_is_so => k_is)
    (case k_law_is_so => k_is)
    (case a_Flip__width => k_is)
    (case i_Flip__width => k_is)
    (case l_Flip__width => k_is)
    (case c_Flip__width => k_is)
    (case k_Flip__width => k_is)
    (case a_require_fit => k_is)
    (case l_require_fit => k_is)
    (case c_require_fit => k_is)
    (case k_require_fit => k_is)
    (case a_board_of => k_is)
    (case l_board_of => k_is)
    (case c_board_of => k_is)
    (case k_board_of => k_is)
    (case a_mask_after => k_is)
    (case l_mask_after => k_is)
    (case c_mask_after => k_is)
    (case k_mask_after => k_is)
    (case a_apply_flip => k_is)
    (case l_apply_flip => k_is)
    (case c_apply_flip => k_is)
    (case k_apply_flip => k_is)
    (case a_law_effects_right => k_is)
    (case l_law_effects_right => k_is)
    (case c_law_effects_right => k_is)
    (case k_law_effects_right => k_is)
    (case a_law => k_is)
    (case tb_law => exact PC.tab_in (by k_is) (by k_is) (by rfl) (by rfl) (by k_is) (by rfl) (by rfl))
    (case nk_law => first | rfl | decide +kernel)
    (case rc_law => first | rfl | decide +kernel)
    (case l_law => k_is)
    (case c_law => k_is)
    (case k_law => k_is)
    (case pg_Board => k_is)
    (case hd_Board => k_is)
    (case po_Board => k_is)
    (case sa_Board => k_is)
    (case mk_Board => k_is)
    (case ca_Board => k_is)
    (case ob_Board => k_is)
    (case kC_Board => k_is)
    (case no_Board_own_size => k_is)
    (case no_Board_up_mask => k_is)
    (case pg_Flip => k_is)
    (case hd_Flip => k_is)
    (case po_Flip => k_is)
    (case sa_Flip => k_is)
    (case mk_Flip => k_is)
    (case ca_Flip => k_is)
    (case ob_Flip => k_is)
    (case kC_Flip => k_is)
    (case no_Flip_test_mask => k_is)
    (case no_Flip_toggle_mask => k_is)
    (case aC_CellError => k_is)
    (case aC_LimitError => k_is)
    (case aC_NoSize => k_is)
    (case aC_NoCell => k_is)
    (case aC_NoCells => k_is)
    (case aC_NoFlip => k_is)
    (case aC_TooWide => k_is)
    (case ga_CellError => k_is)
    (case gg_CellError => k_is)
    (case eC_CellError => k_is)
    (case hd_CellError => k_is)
    (case ic_CellError => k_is)
    (case tC_CellError => k_is)
    (case ca_CellError => k_is)
    (case ob_CellError => k_is)
    (case me_CellError => k_is)
    (case ga_LimitError => k_is)
    (case gg_LimitError => k_is)
    (case eC_LimitError => k_is)
    (case hd_LimitError => k_is)
    (case ic_LimitError => k_is)
    (case tC_LimitError => k_is)
    (case ca_LimitError => k_is)
    (case ob_LimitError => k_is)
    (case me_LimitError => k_is)
    (case ga_NoSize => k_is)
    (case gg_NoSize => k_is)
    (case eC_NoSize => k_is)
    (case hd_NoSize => k_is)
    (case ic_NoSize => k_is)
    (case tC_NoSize => k_is)
    (case ca_NoSize => k_is)
    (case ob_NoSize => k_is)
    (case me_NoSize => k_is)
    (case ga_NoCell => k_is)
    (case gg_NoCell => k_is)
    (case eC_NoCell => k_is)
    (case hd_NoCell => k_is)
    (case ic_NoCell => k_is)
    (case tC_NoCell => k_is)
    (case ca_NoCell => k_is)
    (case ob_NoCell => k_is)
    (case me_NoCell => k_is)
    (case ga_NoCells => k_is)
    (case gg_NoCells => k_is)
    (case eC_NoCells => k_is)
    (case hd_NoCells => k_is)
    (case ic_NoCells => k_is)
    (case tC_NoCells => k_is)
    (case ca_NoCells => k_is)
    (case ob_NoCells => k_is)
    (case me_NoCells => k_is)
    (case ga_NoFlip => k_is)
    (case gg_NoFlip => k_is)
    (case eC_NoFlip => k_is)
    (case hd_NoFlip => k_is)
    (case ic_NoFlip => k_is)
    (case tC_NoFlip => k_is)
    (case ca_NoFlip => k_is)
    (case ob_NoFlip => k_is)
    (case me_NoFlip => k_is)
    (case ga_TooWide => k_is)
    (case gg_TooWide => k_is)
    (case eC_TooWide => k_is)
    (case hd_TooWide => k_is)
    (case ic_TooWide => k_is)
    (case tC_TooWide => k_is)
    (case ca_TooWide => k_is)
    (case ob_TooWide => k_is)
    (case me_TooWide => k_is)
    (case rD_CellError => k_is)
    (case gD_CellError => k_is)
    (case iD_CellError => k_is)
    (case rD_LimitError => k_is)
    (case gD_LimitError => k_is)
    (case iD_LimitError => k_is)
    (case xL_NoSize => k_is)
    (case sa_NoSize => k_is)
    (case no_NoSize_0 => k_is)
    (case iI_NoSize => k_is)
    (case tI_NoSize => k_is)
    (case lI_NoSize => k_is)
    (case cI_NoSize => k_is)
    (case kC_NoSize => k_is)
    (case xL_NoCell => k_is)
    (case sa_NoCell => k_is)
    (case no_NoCell_0 => k_is)
    (case iI_NoCell => k_is)
    (case tI_NoCell => k_is)
    (case lI_NoCell => k_is)
    (case cI_NoCell => k_is)
    (case kC_NoCell => k_is)
    (case xL_NoCells => k_is)
    (case sa_NoCells => k_is)
    (case no_NoCells_0 => k_is)
    (case iI_NoCells => k_is)
    (case tI_NoCells => k_is)
    (case lI_NoCells => k_is)
    (case cI_NoCells => k_is)
    (case kC_NoCells => k_is)
    (case xL_NoFlip => k_is)
    (case sa_NoFlip => k_is)
    (case no_NoFlip_0 => k_is)
    (case iI_NoFlip => k_is)
    (case tI_NoFlip => k_is)
    (case lI_NoFlip => k_is)
    (case cI_NoFlip => k_is)
    (case kC_NoFlip => k_is)
    (case xL_TooWide => k_is)
    (case sa_TooWide => k_is)
    (case no_TooWide_0 => k_is)
    (case iI_TooWide => k_is)
    (case tI_TooWide => k_is)
    (case lI_TooWide => k_is)
    (case cI_TooWide => k_is)
    (case kC_TooWide => k_is)
    (case cq1 => k_is)
    (case cq2 => k_is)
    (case s_NoSize_CellError => k_is)
    (case s_NoSize_NoCell => k_is)
    (case s_NoSize_NoCells => k_is)
    (case s_NoSize_NoFlip => k_is)
    (case s_NoCell_CellError => k_is)
    (case s_NoCell_NoCell => k_is)
    (case s_NoCell_NoCells => k_is)
    (case s_NoCell_NoFlip => k_is)
    (case s_NoCells_CellError => k_is)
    (case s_NoCells_NoCell => k_is)
    (case s_NoCells_NoCells => k_is)
    (case s_NoCells_NoFlip => k_is)
    (case s_NoFlip_CellError => k_is)
    (case s_NoFlip_NoCell => k_is)
    (case s_NoFlip_NoCells => k_is)
    (case s_NoFlip_NoFlip => k_is)
    (case s_TooWide_CellError => k_is)
    (case s_TooWide_NoCell => k_is)
    (case s_TooWide_NoCells => k_is)
    (case s_TooWide_NoFlip => k_is)
    (case z_abs => k_is)
    (case z_all => k_is)
    (case z_bool => k_is)
    (case z_divmod => k_is)
    (case z_enumerate => k_is)
    (case z_int => k_is)
    (case z_isinstance => k_is)
    (case z_len => k_is)
    (case z_list => k_is)
    (case z_max => k_is)
    (case z_min => k_is)
    (case z_range => k_is)
    (case z_repr => k_is)
    (case z_sorted => k_is)
    (case z_sum => k_is)
    (case z_tuple => k_is)
    (case z_zip => k_is)
    (case v_MOST_CELLS => k_is)
    (case nd => first | decide | k_is)
